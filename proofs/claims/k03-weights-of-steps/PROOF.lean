import PyProof.Rows.All
import Wide.All
import OpenK.AllK
import Wide.FinOn
import HandS.ForMost
import HandS.ForExc
import HandS.ExcInit
import HandS.Wide
import HandS.WideBits
import HandS.Star
import HandS.IsInst
import HandS.Deep
import PyProof.Rows.RuleB_pow
import HandS.Conv
import PyProof.RulesMatch
import HandS.EndBits
import PyProof.ReprRoads
import PyProof.ReprLen
import HandS.ExcIs
import HandS.Dict
import KE.SortData
import HandS.TupLe
import HandS.SortInts
import HandS.NoneIn
import HandS.TupSets
import KE.GoesEnum
import HandS.SetFor
import HandS.Strs
import HandS.WordsDict
import HandS.Text
import HandS.Iter
import HandS.List
import PyProof.StrBlock2
import PyProof.Rows.StrMul
import HandS.ExcField
import KE.KExcIs
import KE.KExcInit
import KE.KExcLine
import PyProof.ListOps
import PyProof.AutoSeq1
import PySem.Challenge.RW_storedtrees_k03_weights_of_steps
set_option Elab.async false
set_option linter.all false
set_option maxRecDepth 100000
set_option maxHeartbeats 8000000
namespace DL
open PySem PySem.Spec L2
open PyProof.Rows hiding St

/-- data: `.dict []` is the empty dict; an exception of class number c is `.dict [(.none, .int c)]`, with a field behind it -/
abbrev D := PyData
/-- the slots of a def: the mode (true: the list there is this slot's own) and the data -/
abbrev Sl := List (Option (Bool × D))

/-- what a piece of code comes to -/
inductive R (s : Type) (a : Type) where
  | ok (x : a) (d : s)
  | exc (c : Nat) (xs : List D) (d : s)
  | stk

structure Ct where
  K : PySem.W.Frag
  cl : Nat → Addr
  fld : Nat → Str

/-- an exception object that has been caught -/
def XO (a : Addr) (cls : Value) (d : Option Addr) : HO := .ext fun h => ∃ (o : Obj) (vs : Array Value), h.get? a = some o ∧ o.cls = cls ∧ o.dict = d ∧ o.data = .fields vs

/-- the built-in classes that are handed around, by number -/
def tyNames : List String := ["int", "bool", "str", "tuple", "list", "ValueError"]

/-- the script: frozen, or in the written part -/
def ScrAt (K : PySem.W.Frag) (H : Hp) (a : Addr) (xs : List V) : Prop := (∃ o, H a = some (.frz o (.lst xs))) ∨
  ∃ (o : Obj) (its : Array Value) (n : Nat), K.lookup a = some o ∧ o.cls = .type "list" ∧ o.dict = none ∧ o.data = .seq its n ∧ its.size ≤ sizeLine ∧ Vals xs its.toList
theorem ScrAt.sq {K : PySem.W.Frag} {H : Hp} {a : Addr} {xs : List V} (h : ScrAt K H a xs) : SqL K H a xs := h.elim (fun z => .inl (.inr z)) .inr
mutual
inductive Rep (C : Ct) (W : Addr → Prop) (H : Hp) : V → D → Prop
  | non : Rep C W H .non .none
  | bl (b : Bool) : Rep C W H (.bl b) (.bool b)
  | int (i : Int) : Rep C W H (.int i) (.int i)
  | str (x : Str) : Rep C W H (.str x) (.str x)
  | lst {a : Addr} {xs : List V} {ds : List D} : ¬ W a → H a = some (.lst xs) → RepL C W H xs ds → Rep C W H (.ref a) (.list ds)
  | scr {a : Addr} {xs : List V} {ds : List D} : ScrAt C.K H a xs → RepL C W H xs ds → Rep C W H (.ref a) (.dict [(.bool true, .list ds)])
  | tup {a : Addr} {xs : List V} {ds : List D} : SqT C.K H a xs → RepL C W H xs ds → Rep C W H (.ref a) (.tuple ds)
  | tyb {n : String} {k : Nat} : tyNames[k]? = some n → Rep C W H (.ty n) (.dict [(.bool false, .int (-(k : Int) - 1))])
  | tyo {c : Nat} : Rep C W H (.ref (C.cl c)) (.dict [(.bool false, .int (c : Int))])
  | dct {a : Addr} : ¬ W a → H a = some (.dK []) → Rep C W H (.ref a) (.dict [])
  | dki {a : Addr} {ps : List (Int × Int)} : ¬ W a → H a = some (.dK (ps.map fun p => (.inl p.1, .int p.2))) → Rep C W H (.ref a) (.dict [(.bool true, .tuple (ps.map fun p => .tuple [.int p.1, .int p.2]))])
  | exc0 {a : Addr} {c : Nat} : H a = some (XO a (.ref (C.cl c)) none) → Rep C W H (.ref a) (.dict [(.none, .int (c : Int))])
  | exc1 {a dd : Addr} {c : Nat} {v : V} {d : D} : H a = some (XO a (.ref (C.cl c)) (some dd)) → H dd = some (.xd [(C.fld c, v)]) → Rep C W H v d → Rep C W H (.ref a) (.dict [(.none, .int (c : Int)), (.none, d)])
inductive RepL (C : Ct) (W : Addr → Prop) (H : Hp) : List V → List D → Prop
  | nil : RepL C W H [] []
  | cons {v : V} {vs : List V} {d : D} {ds : List D} : Rep C W H v d → RepL C W H vs ds → RepL C W H (v :: vs) (d :: ds)
end

section
variable {C : Ct} {W W' : Addr → Prop} {H H' : Hp}
theorem RepL.length : ∀ {vs : List V} {ds : List D}, RepL C W H vs ds → vs.length = ds.length
  | _, _, .nil => rfl
  | _, _, .cons _ t => by simp [RepL.length t]
theorem RepL.get : ∀ {vs : List V} {ds : List D} {i : Nat} {d : D}, RepL C W H vs ds → ds[i]? = some d → ∃ v, vs[i]? = some v ∧ Rep C W H v d
  | _, _, _, _, .nil, e => by simp at e
  | _, _, 0, _, .cons r _, e => by simp at e; subst e; exact ⟨_, rfl, r⟩
  | _, _, i + 1, d, .cons _ t, e => by
    obtain ⟨v, h1, h2⟩ := RepL.get (i := i) (d := d) t (by simpa using e)
    exact ⟨v, by simpa using h1, h2⟩
theorem RepL.getV : ∀ {vs : List V} {ds : List D} {i : Nat} {v : V}, RepL C W H vs ds → vs[i]? = some v → ∃ d, ds[i]? = some d ∧ Rep C W H v d
  | _, _, _, _, .nil, e => by simp at e
  | _, _, 0, _, .cons r _, e => by simp at e; subst e; exact ⟨_, rfl, r⟩
  | _, _, i + 1, d, .cons _ t, e => by
    obtain ⟨v, h1, h2⟩ := RepL.getV (i := i) (v := d) t (by simpa using e)
    exact ⟨v, by simpa using h1, h2⟩
theorem RepL.append : ∀ {vs ws : List V} {ds es : List D}, RepL C W H vs ds → RepL C W H ws es → RepL C W H (vs ++ ws) (ds ++ es)
  | _, _, _, _, .nil, s => s
  | _, _, _, _, .cons r t, s => .cons r (RepL.append t s)
theorem RepL.one {v : V} {d : D} (h : Rep C W H v d) : RepL C W H [v] [d] := .cons h .nil
theorem RepL.set {v : V} {d : D} (r : Rep C W H v d) : ∀ {vs : List V} {ds : List D} (i : Nat), RepL C W H vs ds → RepL C W H (vs.set i v) (ds.set i d)
  | _, _, _, .nil => .nil
  | _, _, 0, .cons _ t => .cons r t
  | _, _, i + 1, .cons q t => .cons q (RepL.set r i t)
theorem RepL.take : ∀ {vs : List V} {ds : List D} (n : Nat), RepL C W H vs ds → RepL C W H (vs.take n) (ds.take n)
  | _, _, 0, _ => .nil
  | _, _, _ + 1, .nil => .nil
  | _, _, n + 1, .cons r t => .cons r (RepL.take n t)
theorem RepL.drop : ∀ {vs : List V} {ds : List D} (n : Nat), RepL C W H vs ds → RepL C W H (vs.drop n) (ds.drop n)
  | _, _, 0, r => r
  | _, _, _ + 1, .nil => .nil
  | _, _, n + 1, .cons _ t => RepL.drop n t

/-- what stands is kept, but the contents of lists at the addresses W -/
def Kept (W : Addr → Prop) (H H' : Hp) : Prop := ∀ a o, H a = some o → (W a → ∀ xs, o ≠ .lst xs) → H' a = some o
theorem Kept.sqT (k : Kept W H H') {K : PySem.W.Frag} {a : Addr} {xs : List V} (h : SqT K H a xs) : SqT K H' a xs := by
  rcases h with (h | ⟨o, h⟩) | h
  · exact .inl (.inl (k _ _ h fun _ ys z => nomatch z))
  · exact .inl (.inr ⟨o, k _ _ h fun _ ys z => nomatch z⟩)
  · exact .inr h
theorem Kept.scr (k : Kept W H H') {K : PySem.W.Frag} {a : Addr} {xs : List V} (h : ScrAt K H a xs) : ScrAt K H' a xs := h.imp (fun ⟨o, z⟩ => ⟨o, k _ _ z fun _ ys z => nomatch z⟩) id
mutual
theorem Rep.move {O : Addr → Prop} (k : Kept O H H') (hO : ∀ a, O a → W a) (hw : ∀ a, W' a → W a ∨ H a = none) : ∀ {v : V} {d : D}, Rep C W H v d → Rep C W' H' v d
  | _, _, .non => .non
  | _, _, .bl b => .bl b
  | _, _, .int i => .int i
  | _, _, .str x => .str x
  | _, _, .lst n h t => .lst (fun z => (hw _ z).elim n fun q => by rw [h] at q; cases q) (k _ _ h fun z => absurd (hO _ z) n) (RepL.move k hO hw t)
  | _, _, .scr h t => .scr (k.scr h) (RepL.move k hO hw t)
  | _, _, .tup h t => .tup (k.sqT h) (RepL.move k hO hw t)
  | _, _, .tyb h => .tyb h
  | _, _, .tyo => .tyo
  | _, _, .dct n h => .dct (fun z => (hw _ z).elim n fun q => by rw [h] at q; cases q) (k _ _ h fun _ xs z => nomatch z)
  | _, _, .dki n h => .dki (fun z => (hw _ z).elim n fun q => by rw [h] at q; cases q) (k _ _ h fun _ xs z => nomatch z)
  | _, _, .exc0 h => .exc0 (k _ _ h fun _ xs z => nomatch z)
  | _, _, .exc1 h g r => .exc1 (k _ _ h fun _ xs z => nomatch z) (k _ _ g fun _ xs z => nomatch z) (Rep.move k hO hw r)
theorem RepL.move {O : Addr → Prop} (k : Kept O H H') (hO : ∀ a, O a → W a) (hw : ∀ a, W' a → W a ∨ H a = none) : ∀ {vs : List V} {ds : List D}, RepL C W H vs ds → RepL C W' H' vs ds
  | _, _, .nil => .nil
  | _, _, .cons r t => .cons (Rep.move k hO hw r) (RepL.move k hO hw t)
end
theorem Kept.refl : Kept W H H := fun _ _ h _ => h
theorem Rep.weak (hw : ∀ a, W' a → W a) {v : V} {d : D} (h : Rep C W H v d) : Rep C W' H v d := h.move (O := fun _ => False) Kept.refl (fun _ z => z.elim) fun a z => .inl (hw a z)
theorem RepL.weak (hw : ∀ a, W' a → W a) {v : List V} {d : List D} (h : RepL C W H v d) : RepL C W' H v d := h.move (O := fun _ => False) Kept.refl (fun _ z => z.elim) fun a z => .inl (hw a z)
end

/-- the addresses of the lists that are slots' own -/
def Own (δ : Sl) (σ : St) (a : Addr) : Prop := ∃ (i : Nat) (d : D), δ[i]? = some (some (true, d)) ∧ σ[i]? = some (some (.ref a))
/-- F: lists of the callers, not to be touched; Old: what was tracked at the entry; io: the parameters whose lists are the caller's slots -/
structure Gh where
  F : Addr → Prop
  Old : Addr → Prop
  io : List Nat
def Gh.plus (G : Gh) (a : Addr) : Gh := { G with F := fun b => G.F b ∨ b = a }
def WW (G : Gh) (δ : Sl) (σ : St) (a : Addr) : Prop := G.F a ∨ Own δ σ a

structure ERel (C : Ct) (G : Gh) (δ : Sl) (σ : St) (H : Hp) : Prop where
  len : δ.length = σ.length
  sh : ∀ (i : Nat) (d : D), δ[i]? = some (some (false, d)) → ∃ v, σ[i]? = some (some v) ∧ Rep C (WW G δ σ) H v d
  ow : ∀ (i : Nat) (d : D), δ[i]? = some (some (true, d)) → ∃ a xs ds, σ[i]? = some (some (.ref a)) ∧ d = .list ds ∧ H a = some (.lst xs) ∧ RepL C (WW G δ σ) H xs ds ∧ ¬ G.F a ∧ (i ∉ G.io → ¬ G.Old a)
  inj : ∀ (i j : Nat) (a : Addr) (di dj : D), δ[i]? = some (some (true, di)) → δ[j]? = some (some (true, dj)) → σ[i]? = some (some (.ref a)) → σ[j]? = some (some (.ref a)) → i = j
  fl : ∀ a, G.F a → H a ≠ none
  ol : ∀ a, G.Old a → H a ≠ none
  sz : ∀ a xs, H a = some (.lst xs) → xs.length ≤ sizeLine

/-- from one moment to a later one -/
structure Ext (δ : Sl) (σ : St) (H : Hp) (δ' : Sl) (σ' : St) (H' : Hp) : Prop where
  kp : Kept (Own δ σ) H H'
  th : ∀ a, H a ≠ none → H' a ≠ none
  own : ∀ a, Own δ' σ' a → Own δ σ a ∨ H a = none

section
variable {C : Ct} {G : Gh} {δ δ1 δ2 : Sl} {σ σ1 σ2 : St} {H H1 H2 : Hp}
theorem Ext.refl : Ext δ σ H δ σ H := ⟨Kept.refl, fun _ z => z, fun _ z => .inl z⟩
theorem Ext.trans (a : Ext δ σ H δ1 σ1 H1) (b : Ext δ1 σ1 H1 δ2 σ2 H2) : Ext δ σ H δ2 σ2 H2 where
  kp := fun c o h n => b.kp c o (a.kp c o h n) fun z => by
    rcases a.own c z with q | q
    · exact n q
    · rw [h] at q; cases q
  th := fun c z => b.th c (a.th c z)
  own := fun c z => by
    rcases b.own c z with q | q
    · exact a.own c q
    · right
      cases e : H c with
      | none => rfl
      | some o => exact absurd q (a.th c (by rw [e]; exact fun z => nomatch z))
theorem Ext.ww (a : Ext δ σ H δ1 σ1 H1) : ∀ b, WW G δ1 σ1 b → WW G δ σ b ∨ H b = none := fun b z => by
  rcases z with z | z
  · exact .inl (.inl z)
  · rcases a.own b z with q | q
    · exact .inl (.inr q)
    · exact .inr q
theorem Ext.rep (a : Ext δ σ H δ1 σ1 H1) {v : V} {d : D} (r : Rep C (WW G δ σ) H v d) : Rep C (WW G δ1 σ1) H1 v d := r.move a.kp (fun _ z => .inr z) a.ww
theorem Ext.repL (a : Ext δ σ H δ1 σ1 H1) {v : List V} {d : List D} (r : RepL C (WW G δ σ) H v d) : RepL C (WW G δ1 σ1) H1 v d := r.move a.kp (fun _ z => .inr z) a.ww
/-- a slot's own list is tracked -/
theorem ERel.ownH (E : ERel C G δ σ H) {a : Addr} (h : Own δ σ a) : ∃ xs, H a = some (.lst xs) := by
  obtain ⟨i, d, h1, h2⟩ := h
  obtain ⟨b, xs, ds, e1, _, e2, _⟩ := E.ow i d h1
  rw [h2] at e1; cases e1
  exact ⟨xs, e2⟩
theorem ERel.wwH (E : ERel C G δ σ H) {a : Addr} (h : WW G δ σ a) : H a ≠ none := by
  rcases h with h | h
  · exact E.fl a h
  · obtain ⟨xs, e⟩ := E.ownH h
    rw [e]; exact fun z => nomatch z
theorem Own.plus {a : Addr} : WW G δ σ a → ∀ b, WW (G.plus b) δ σ a := fun h b => h.elim (fun z => .inl (.inl z)) .inr
/-- the heap grows by one object -/
theorem ERel.grow {p : Addr} {o : HO} (E : ERel C G δ σ H) (hp : H p = none) (ho : ∀ xs, o = .lst xs → xs.length ≤ sizeLine) : ERel C (G.plus p) δ σ (upd H p o) := by
  have kp : Kept (fun _ => False) H (upd H p o) := fun a u h _ => by rw [upd_ne (ne_of_none h hp)]; exact h
  have mv : ∀ a, WW (G.plus p) δ σ a → WW G δ σ a ∨ H a = none := fun a z => by
    rcases z with (z | z) | z
    · exact .inl (.inl z)
    · exact .inr (by rw [z]; exact hp)
    · exact .inl (.inr z)
  refine ⟨E.len, fun i d e => ?_, fun i d e => ?_, E.inj, fun a z => ?_, fun a z => ?_, fun a xs z => ?_⟩
  · obtain ⟨v, h1, h2⟩ := E.sh i d e
    exact ⟨v, h1, h2.move kp (fun _ z => z.elim) mv⟩
  · obtain ⟨a, xs, ds, h1, h2, h3, h4, h5, h6⟩ := E.ow i d e
    refine ⟨a, xs, ds, h1, h2, by rw [upd_ne (ne_of_none h3 hp)]; exact h3, h4.move kp (fun _ z => z.elim) mv, fun z => ?_, h6⟩
    rcases z with z | z
    · exact h5 z
    · exact ne_of_none h3 hp z
  · rcases z with z | z
    · have q := E.fl a z
      by_cases e : a = p
      · rw [e]; rw [upd_same]; exact fun z => nomatch z
      · rw [upd_ne e]; exact q
    · rw [z, upd_same]; exact fun z => nomatch z
  · have q := E.ol a z
    by_cases e : a = p
    · rw [e]; rw [upd_same]; exact fun z => nomatch z
    · rw [upd_ne e]; exact q
  · by_cases e : a = p
    · rw [e, upd_same] at z
      exact ho xs (Option.some.inj z)
    · rw [upd_ne e] at z; exact E.sz a xs z
theorem ERel.less {a : Addr} (E : ERel C (G.plus a) δ σ H) : ERel C G δ σ H := by
  have w : ∀ b, WW G δ σ b → WW (G.plus a) δ σ b := fun b z => z.elim (fun q => .inl (.inl q)) .inr
  refine ⟨E.len, fun i d e => ?_, fun i d e => ?_, E.inj, fun b z => E.fl b (.inl z), E.ol, E.sz⟩
  · obtain ⟨v, h1, h2⟩ := E.sh i d e
    exact ⟨v, h1, h2.weak w⟩
  · obtain ⟨b, xs, ds, h1, h2, h3, h4, h5, h6⟩ := E.ow i d e
    exact ⟨b, xs, ds, h1, h2, h3, h4.weak w, fun z => h5 (.inl z), h6⟩
theorem Ext.grow {p : Addr} {o : HO} (hp : H p = none) : Ext δ σ H δ σ (upd H p o) :=
  ⟨fun a u h _ => by rw [upd_ne (ne_of_none h hp)]; exact h, fun a z => by
    by_cases e : a = p
    · rw [e, upd_same]; exact fun z => nomatch z
    · rw [upd_ne e]; exact z, fun _ z => .inl z⟩
end

/-- the value of an expression is a list that nothing else has -/
def FreshV (C : Ct) (G : Gh) (δ : Sl) (σ : St) (H : Hp) (v : V) (d : D) : Prop :=
  ∃ a xs ds, v = .ref a ∧ d = .list ds ∧ ¬ G.Old a ∧ ¬ G.F a ∧ H a = some (.lst xs) ∧ RepL C (WW (G.plus a) δ σ) H xs ds ∧ ERel C (G.plus a) δ σ H
/-- the value of an expression is a pair of a number and a list that nothing else has -/
def FreshP (C : Ct) (G : Gh) (δ : Sl) (σ : St) (H : Hp) (v : V) (d : D) : Prop :=
  ∃ t n a xs ds, v = .ref t ∧ d = .tuple [.int n, .list ds] ∧ SqT C.K H t [.int n, .ref a] ∧ ¬ G.Old a ∧ ¬ G.F a ∧ H a = some (.lst xs) ∧ RepL C (WW (G.plus a) δ σ) H xs ds ∧ ERel C (G.plus a) δ σ H
section
variable {C : Ct} {G : Gh} {δ δ1 δ2 : Sl} {σ σ1 σ2 : St} {H H1 H2 : Hp} {v : V} {d : D}
theorem FreshV.rep (h : FreshV C G δ σ H v d) : Rep C (WW G δ σ) H v d := by
  obtain ⟨a, xs, ds, rfl, rfl, h1, h2, h3, h4, E⟩ := h
  refine .lst (fun z => ?_) h3 (h4.weak fun b z => z.elim (fun q => .inl (.inl q)) .inr)
  rcases z with z | ⟨i, d, e1, e2⟩
  · exact h2 z
  · obtain ⟨b, _, _, e3, _, _, _, n, _⟩ := E.ow i d e1
    rw [e2] at e3; cases e3
    exact n (.inr rfl)
/-- a new list -/
theorem FreshV.new {p : Addr} {xs : List V} {ds : List D} (E : ERel C G δ σ H) (hp : H p = none) (hl : xs.length ≤ sizeLine) (r : RepL C (WW G δ σ) H xs ds) : FreshV C G δ σ (upd H p (.lst xs)) (.ref p) (.list ds) := by
  refine ⟨p, xs, ds, rfl, rfl, fun z => E.ol p z hp, fun z => E.fl p z hp, upd_same, ?_, E.grow hp fun ys e => by cases e; exact hl⟩
  refine r.move (O := fun _ => False) (fun a u h _ => by rw [upd_ne (ne_of_none h hp)]; exact h) (fun _ z => z.elim) fun a z => ?_
  rcases z with (z | z) | z
  · exact .inl (.inl z)
  · exact .inr (by rw [z]; exact hp)
  · exact .inl (.inr z)
end

def ExcV (C : Ct) (W : Addr → Prop) (H : Hp) (cls : Value) (dct : Option Addr) (c : Nat) (xs : List D) : Prop :=
  cls = .ref (C.cl c) ∧ ((xs = [] ∧ dct = none) ∨ ∃ dd v d, xs = [d] ∧ dct = some dd ∧ H dd = some (.xd [(C.fld c, v)]) ∧ Rep C W H v d)
abbrev EV := R Sl (D × Bool)
/-- what is wanted of a piece that comes to r -/
def Post {α : Type} (C : Ct) (W : WX) (G : Gh) (δ : Sl) (σ : St) (H : Hp) (k : α → Sl → Hp → Prop) (r : R Sl α) : Prop := match r with
  | .ok x δ' => ∀ H', ERel C G δ' σ H' → Ext δ σ H δ' σ H' → k x δ' H'
  | .exc c xs δ' => ∀ cls dct H', ERel C G δ' σ H' → Ext δ σ H δ' σ H' → ExcV C (WW G δ' σ) H' cls dct c xs → W cls dct σ H'
  | .stk => False
/-- .. that was not there at the start (or was a slot's own) -/
def FreshN (C : Ct) (G : Gh) (δ0 : Sl) (H0 : Hp) (δ : Sl) (σ : St) (H : Hp) (v : V) (d : D) : Prop := FreshV C G δ σ H v d ∧ ∀ a, v = .ref a → H0 a = none ∨ Own δ0 σ a
def kE (C : Ct) (G : Gh) (δ0 : Sl) (σ : St) (H0 : Hp) (Q : VK) : D × Bool → Sl → Hp → Prop := fun p δ' H' => ∀ v, Rep C (WW G δ' σ) H' v p.1 → (p.2 = true → FreshN C G δ0 H0 δ' σ H' v p.1) → Q v H'
def kT (Q : Bool → Hp → Prop) : Bool → Sl → Hp → Prop := fun b _ H' => Q b H'
def kA (C : Ct) (G : Gh) (σ : St) (Q : List V → Hp → Prop) : List D → Sl → Hp → Prop := fun ds δ' H' => ∀ vs, RepL C (WW G δ' σ) H' vs ds → Q vs H'
def tD (C : Ct) (W : WX) (G : Gh) (g : Sl → EV) : TE := fun σ H Q => ∃ δ, ERel C G δ σ H ∧ Post C W G δ σ H (kE C G δ σ H Q) (g δ)
def tT (C : Ct) (W : WX) (G : Gh) (g : Sl → R Sl Bool) : TT := fun σ H Q => ∃ δ, ERel C G δ σ H ∧ Post C W G δ σ H (kT Q) (g δ)
def tA (C : Ct) (W : WX) (G : Gh) (g : Sl → R Sl (List D)) : TA := fun σ H Q => ∃ δ, ERel C G δ σ H ∧ Post C W G δ σ H (kA C G σ Q) (g δ)
theorem PE.imp {X : Cx} {e : Expr} {t t' : TE} (h : PE X e t) (hi : ∀ σ H Q, t' σ H Q → t σ H Q) : PE X e t' := ⟨fun pins s σ H Q I q => h.run pins s σ H Q I (hi σ H Q q)⟩
theorem PT.imp {X : Cx} {e : Expr} {t t' : TT} (h : PT X e t) (hi : ∀ σ H Q, t' σ H Q → t σ H Q) : PT X e t' := ⟨fun pins s σ H Q I q => h.run pins s σ H Q I (hi σ H Q q)⟩
theorem PA.imp {X : Cx} {e : List Expr} {t t' : TA} (h : PA X e t) (hi : ∀ σ H Q, t' σ H Q → t σ H Q) : PA X e t' := ⟨fun pos pins s σ H Q I q => h.run pos pins s σ H Q I (hi σ H Q q)⟩
theorem PS.imp {X : Cx} {e : Stmt} {t t' : TS} (h : PS X e t) (hi : ∀ D σ H, t' D σ H → t D σ H) : PS X e t' := ⟨fun pins s σ H D I q => h.run pins s σ H D I (hi D σ H q)⟩
theorem PSs.imp {X : Cx} {e : List Stmt} {t t' : TS} (h : PSs X e t) (hi : ∀ D σ H, t' D σ H → t D σ H) : PSs X e t' := ⟨fun pins s σ H D I q => h.run pins s σ H D I (hi D σ H q)⟩
/-- one piece behind another -/
def R.bind {s a b : Type} (x : R s a) (f : a → s → R s b) : R s b := match x with
  | .ok v d => f v d
  | .exc c xs d => .exc c xs d
  | .stk => .stk
section
variable {α β : Type} {C : Ct} {W : WX} {G : Gh} {δ δ1 : Sl} {σ : St} {H H1 : Hp} {r : R Sl α} {k k' : α → Sl → Hp → Prop}
/-- the wish, seen from a later moment -/
theorem Post.later (x : Ext δ σ H δ1 σ H1) (h : Post C W G δ σ H k r) : Post C W G δ1 σ H1 k r := by
  cases r with
  | ok p δ' => exact fun H' E e => h H' E (x.trans e)
  | exc c xs δ' => exact fun cls dct H' E e v => h cls dct H' E (x.trans e) v
  | stk => exact h
theorem Post.imp (h : Post C W G δ σ H k r) (i : ∀ x δ' H', ERel C G δ' σ H' → Ext δ σ H δ' σ H' → k x δ' H' → k' x δ' H') : Post C W G δ σ H k' r := by
  cases r with
  | ok p δ' => exact fun H' E e => i _ _ _ E e (h H' E e)
  | exc c xs δ' => exact h
  | stk => exact h
theorem Ext.back (x : Ext δ σ H δ1 σ H1) {a : Addr} (h : H1 a = none ∨ Own δ1 σ a) : H a = none ∨ Own δ σ a := by
  rcases h with h | h
  · cases e : H a with
    | none => exact .inl rfl
    | some o => exact absurd h (x.th a (by rw [e]; exact fun z => nomatch z))
  · exact (x.own a h).symm
theorem FreshN.early {δ2 : Sl} {H2 : Hp} {v : V} {d : D} (x : Ext δ σ H δ1 σ H1) (f : FreshN C G δ1 H1 δ2 σ H2 v d) : FreshN C G δ H δ2 σ H2 v d := ⟨f.1, fun a e => x.back (f.2 a e)⟩
/-- the wish of an expression, from a later start -/
theorem Post.at {r : EV} {Q : VK} (p : Post C W G δ1 σ H1 (kE C G δ σ H Q) r) (x : Ext δ σ H δ1 σ H1) : Post C W G δ1 σ H1 (kE C G δ1 σ H1 Q) r :=
  p.imp fun q δ' H' E X k v rv f => k v rv fun z => (f z).early x
theorem Post.bind {kb : β → Sl → Hp → Prop} {f : α → Sl → R Sl β} (p : Post C W G δ σ H kb (r.bind f)) : Post C W G δ σ H (fun x δ1 H1 => Post C W G δ1 σ H1 kb (f x δ1)) r := by
  cases r with
  | ok x δ' => exact fun H' E e => Post.later e p
  | exc c xs δ' => exact p
  | stk => exact p
end
end DL

namespace DL
open PySem PySem.Spec L2
open PyProof.Rows hiding St

def gVar (i : Nat) : Sl → EV := fun δ => match δ[i]? with
  | some (some (false, d)) => .ok (d, false) δ
  | some (some (true, d)) => .ok (d, false) (δ.set i (some (false, d)))
  | _ => .stk
def gMove (io : List Nat) (i : Nat) : Sl → EV := fun δ => match δ[i]? with
  | some (some (false, d)) => .ok (d, false) δ
  | some (some (true, d)) => if io.contains i then .stk else .ok (d, true) (δ.set i none)
  | _ => .stk
def gC (d : D) : Sl → EV := fun δ => .ok (d, false) δ

section
variable {C : Ct} {W : WX} {G : Gh} {δ : Sl} {σ : St} {H : Hp} {X : Cx}
theorem own_set {i : Nat} {x : Option (Bool × D)} (hx : ∀ d, x ≠ some (true, d)) : ∀ a, Own (δ.set i x) σ a → Own δ σ a ∧ ∃ j d, j ≠ i ∧ δ[j]? = some (some (true, d)) ∧ σ[j]? = some (some (.ref a)) := fun a ⟨j, d, h1, h2⟩ => by
  by_cases e : i = j
  · subst e
    by_cases hl : i < δ.length
    · rw [List.getElem?_set_self hl] at h1
      exact absurd (Option.some.inj h1) (hx d)
    · rw [List.getElem?_eq_none (by simpa using hl)] at h1
      cases h1
  · rw [List.getElem?_set_ne e] at h1
    exact ⟨⟨j, d, h1, h2⟩, j, d, Ne.symm e, h1, h2⟩
/-- a slot's own list is let go: shared (or gone) -/
theorem ERel.freeze {i : Nat} {a : Addr} {xs : List V} {ds : List D} {x : Option (Bool × D)} (E : ERel C G δ σ H) (hi : δ[i]? = some (some (true, .list ds))) (hs : σ[i]? = some (some (.ref a))) (hx : x = none ∨ x = some (false, .list ds)) : ERel C G (δ.set i x) σ H ∧ ¬ WW G (δ.set i x) σ a := by
  have hx' : ∀ d, x ≠ some (true, d) := fun d z => by rcases hx with h | h <;> rw [h] at z <;> cases z
  have w : ∀ b, WW G (δ.set i x) σ b → WW G δ σ b := fun b z => z.elim .inl fun q => .inr (own_set hx' b q).1
  obtain ⟨b, ys, es, h1, h2, h3, h4, h5, h6⟩ := E.ow i _ hi
  rw [hs] at h1; cases h1
  cases h2
  have na : ¬ WW G (δ.set i x) σ a := fun z => by
    rcases z with z | z
    · exact h5 z
    · obtain ⟨_, j, d, hj, g1, g2⟩ := own_set hx' a z
      exact hj (E.inj j i a d _ g1 hi g2 hs)
  have hil : i < δ.length := (List.getElem?_eq_some_iff.mp hi).1
  refine ⟨⟨by rw [List.length_set]; exact E.len, fun j d e => ?_, fun j d e => ?_, fun j k b dj dk g1 g2 g3 g4 => ?_, E.fl, E.ol, E.sz⟩, na⟩
  · by_cases q : i = j
    · subst q
      rw [List.getElem?_set_self hil] at e
      rcases hx with z | z
      · rw [z] at e; cases e
      · rw [z] at e; cases e
        exact ⟨_, hs, .lst na h3 (h4.weak w)⟩
    · rw [List.getElem?_set_ne q] at e
      obtain ⟨v, r1, r2⟩ := E.sh j d e
      exact ⟨v, r1, r2.weak w⟩
  · by_cases q : i = j
    · subst q
      rw [List.getElem?_set_self hil] at e
      exact absurd (Option.some.inj e) (hx' d)
    · rw [List.getElem?_set_ne q] at e
      obtain ⟨b, ys, es, r1, r2, r3, r4, r5⟩ := E.ow j d e
      exact ⟨b, ys, es, r1, r2, r3, r4.weak w, r5⟩
  · by_cases q : i = j
    · subst q
      rw [List.getElem?_set_self hil] at g1
      exact absurd (Option.some.inj g1) (hx' _)
    · by_cases q' : i = k
      · subst q'
        rw [List.getElem?_set_self hil] at g2
        exact absurd (Option.some.inj g2) (hx' _)
      · rw [List.getElem?_set_ne q] at g1
        rw [List.getElem?_set_ne q'] at g2
        exact E.inj j k b dj dk g1 g2 g3 g4
theorem Ext.freeze {i : Nat} {x : Option (Bool × D)} (hx : ∀ d, x ≠ some (true, d)) : Ext δ σ H (δ.set i x) σ H := ⟨Kept.refl, fun _ z => z, fun a z => .inl (own_set hx a z).1⟩
theorem pd_var {i : Nat} {x : Str} {pos : Pos} (h : PE X (.Name x pos) (tVar i)) : PE X (.Name x pos) (tD C W G (gVar i)) := PE.imp h fun σ H Q ⟨δ, E, p⟩ => by
  unfold gVar at p
  split at p
  · rename_i d e
    obtain ⟨v, h1, h2⟩ := E.sh i d e
    exact ⟨v, h1, p H E Ext.refl v h2 fun z => nomatch z⟩
  · rename_i d e
    obtain ⟨a, xs, ds, h1, rfl, h3, h4, _⟩ := E.ow i d e
    obtain ⟨E', na⟩ := E.freeze (xs := xs) e h1 (.inr rfl)
    have hil : i < δ.length := (List.getElem?_eq_some_iff.mp e).1
    have x := Ext.freeze (δ := δ) (σ := σ) (H := H) (i := i) (x := some (false, PyData.list ds)) fun d z => by cases z
    exact ⟨_, h1, p H E' x _ (.lst na h3 (h4.weak fun b z => z.elim .inl fun q => .inr (own_set (fun d z => by cases z) b q).1)) fun z => nomatch z⟩
  · exact p.elim
theorem pd_move {i : Nat} {x : Str} {pos : Pos} (h : PE X (.Name x pos) (tVar i)) : PE X (.Name x pos) (tD C W G (gMove G.io i)) := PE.imp h fun σ H Q ⟨δ, E, p⟩ => by
  unfold gMove at p
  split at p
  · rename_i d e
    obtain ⟨v, h1, h2⟩ := E.sh i d e
    exact ⟨v, h1, p H E Ext.refl v h2 fun z => nomatch z⟩
  · rename_i d e
    split at p
    · exact p.elim
    · rename_i hio
      obtain ⟨a, xs, ds, h1, rfl, h3, h4, h5, h6⟩ := E.ow i d e
      obtain ⟨E', na⟩ := E.freeze (xs := xs) e h1 (.inl rfl)
      have x := Ext.freeze (δ := δ) (σ := σ) (H := H) (i := i) (x := none) fun d z => by cases z
      have w : ∀ b, WW (G.plus a) (δ.set i none) σ b → WW G δ σ b := fun b z => by
        rcases z with (z | z) | z
        · exact .inl z
        · exact .inr ⟨i, _, e, by rw [z]; exact h1⟩
        · exact .inr (own_set (fun d z => by cases z) b z).1
      have f : FreshV C G (δ.set i none) σ H (.ref a) (.list ds) := by
        refine ⟨a, xs, ds, rfl, rfl, h6 (by simpa using hio), h5, h3, h4.weak w, ⟨E'.len, fun j d q => ?_, fun j d q => ?_, E'.inj, fun b z => ?_, E'.ol, E'.sz⟩⟩
        · have hj : i ≠ j := fun z => by
            subst z
            rw [List.getElem?_set_self (List.getElem?_eq_some_iff.mp e).1] at q
            cases q
          rw [List.getElem?_set_ne hj] at q
          obtain ⟨v, r1, r2⟩ := E.sh j d q
          exact ⟨v, r1, r2.weak w⟩
        · have hj : i ≠ j := fun z => by
            subst z
            rw [List.getElem?_set_self (List.getElem?_eq_some_iff.mp e).1] at q
            cases q
          rw [List.getElem?_set_ne hj] at q
          obtain ⟨b, ys, es, r1, r2, r3, r4, r5, r6⟩ := E.ow j d q
          refine ⟨b, ys, es, r1, r2, r3, r4.weak w, fun z => ?_, r6⟩
          rcases z with z | z
          · exact r5 z
          · exact hj (E.inj i j a _ _ e q h1 (by rw [← z]; exact r1))
        · rcases z with z | z
          · exact E.fl b z
          · rw [z, h3]; exact fun z => nomatch z
      exact ⟨_, h1, p H E' x _ f.rep fun _ => ⟨f, fun b z => by cases z; exact .inr ⟨i, _, e, h1⟩⟩⟩
  · exact p.elim
/-- a constant -/
theorem pd_C {e : Expr} {v : V} {d : D} (h : PE X e (tC v)) (r : ∀ W H, Rep C W H v d) : PE X e (tD C W G (gC d)) := PE.imp h fun σ H Q ⟨δ, E, p⟩ => p H E Ext.refl v (r _ H) fun z => nomatch z
theorem pd_int {i j pos} : PE X (.Constant (.int i) j pos) (tD C W G (gC (.int i))) := pd_C pe_int fun _ _ => .int i
theorem pd_bl {b j pos} : PE X (.Constant (.bool b) j pos) (tD C W G (gC (.bool b))) := pd_C pe_bl fun _ _ => .bl b
theorem pd_non {j pos} : PE X (.Constant .none j pos) (tD C W G (gC .none)) := pd_C pe_non fun _ _ => .non
theorem pd_str {x y : Str} {j pos} (h : x = y) : PE X (.Constant (.str x) j pos) (tD C W G (gC (.str y))) := by subst h; exact pd_C pe_str fun _ _ => .str x
end

abbrev DOp := D → D → Option (D × Bool)
def OpD (C : Ct) (r : R2) (f : DOp) : Prop := ∀ (G : Gh) (δ : Sl) (σ : St) (H : Hp) (x y : V) (v w : D) (p : D × Bool) (Q : VK), ERel C G δ σ H → Rep C (WW G δ σ) H x v → Rep C (WW G δ σ) H y w → f v w = some p →
  (∀ u H', ERel C G δ σ H' → Ext δ σ H δ σ H' → Rep C (WW G δ σ) H' u p.1 → (p.2 = true → FreshN C G δ H δ σ H' u p.1) → Q u H') → r x y H Q
/-- an answer without a list -/
theorem atom {C : Ct} {G : Gh} {δ : Sl} {σ : St} {H : Hp} {Q : VK} {d : D} {v : V} (E : ERel C G δ σ H) (q : ∀ u H', ERel C G δ σ H' → Ext δ σ H δ σ H' → Rep C (WW G δ σ) H' u d → (false = true → FreshN C G δ H δ σ H' u d) → Q u H') (r : Rep C (WW G δ σ) H v d) : Q v H :=
  q v H E Ext.refl r fun z => nomatch z
/-- an answer that is a new list -/
theorem newl {C : Ct} {G : Gh} {δ : Sl} {σ : St} {H : Hp} {Q : VK} {xs : List V} {ds : List D} {p : Addr} (E : ERel C G δ σ H) (q : ∀ u H', ERel C G δ σ H' → Ext δ σ H δ σ H' → Rep C (WW G δ σ) H' u (.list ds) → (true = true → FreshN C G δ H δ σ H' u (.list ds)) → Q u H')
    (r : RepL C (WW G δ σ) H xs ds) (hl : xs.length ≤ sizeLine) (hp : H p = none) : Q (.ref p) (upd H p (.lst xs)) := by
  have f := FreshV.new E hp hl r
  exact q _ _ (E.grow hp fun ys e => by cases e; exact hl).less (Ext.grow hp) f.rep fun _ => ⟨f, fun a e => by cases e; exact .inl hp⟩
theorem newt {C : Ct} {G : Gh} {δ : Sl} {σ : St} {H : Hp} {Q : VK} {xs : List V} {ds : List D} {p : Addr} (E : ERel C G δ σ H) (q : ∀ u H', ERel C G δ σ H' → Ext δ σ H δ σ H' → Rep C (WW G δ σ) H' u (.tuple ds) → (false = true → FreshN C G δ H δ σ H' u (.tuple ds)) → Q u H')
    (r : RepL C (WW G δ σ) H xs ds) (hp : H p = none) : Q (.ref p) (upd H p (.tup xs)) := by
  have x : Ext δ σ H δ σ (upd H p (.tup xs)) := Ext.grow hp
  exact q _ _ (E.grow hp fun ys e => by cases e).less x (.tup (.inl (.inl upd_same)) (x.repL r)) fun z => nomatch z

abbrev LINE : Nat := 16777216
theorem line_eq : (LINE : Nat) = sizeLine := sizeLine_eq.symm
def dAdd : DOp
  | .int i, .int j => some (.int (i + j), false)
  | .str x, .str y => if x.length + y.length ≤ LINE then some (.str (x ++ y), false) else none
  | .list xs, .list ys => if xs.length + ys.length ≤ LINE then some (.list (xs ++ ys), true) else none
  | _, _ => none
def dSub : DOp
  | .int i, .int j => some (.int (i - j), false)
  | _, _ => none
def bitsOk (n : Int) : Bool := decide (n ≤ 134217728)
def dMul : DOp
  | .int i, .int j => if bitsOk ((Builtin.Int.intBits i : Int) + (Builtin.Int.intBits j : Int)) then some (.int (i * j), false) else none
  | .list xs, .int k => if 0 ≤ k ∧ k ≤ 1000000 ∧ xs.length * k.toNat ≤ LINE then some (.list (List.replicate k.toNat xs).flatten, true) else none
  | _, _ => none
def dDiv : DOp
  | .int i, .int j => if 0 < j ∧ j.natAbs.log2 < 9000 then some (.int (i / j), false) else none
  | _, _ => none
def dMod : DOp
  | .int i, .int j => if 0 < j then some (.int (i % j), false) else none
  | _, _ => none
def dShl : DOp
  | .int i, .int j => if 0 ≤ j ∧ bitsOk ((Builtin.Int.intBits i : Int) + j) then some (.int (i * 2 ^ j.toNat), false) else none
  | _, _ => none
def dShr : DOp
  | .int i, .int j => if 0 ≤ j then some (.int (i / 2 ^ j.toNat), false) else none
  | _, _ => none
def dPow : DOp
  | .int i, .int j => if 0 ≤ j ∧ bitsOk ((Builtin.Int.intBits i : Int) * j) then some (.int (i ^ j.toNat), false) else none
  | _, _ => none
def dAnd : DOp
  | .int i, .int j => some (.int (Builtin.bitAnd i j), false)
  | _, _ => none
def dXor : DOp
  | .int i, .int j => some (.int (Builtin.bitXor i j), false)
  | _, _ => none
def dCmp (p : Int → Int → Bool) : DOp
  | .int i, .int j => some (.bool (p i j), false)
  | _, _ => none
abbrev dLt := dCmp fun i j => decide (i < j)
abbrev dLe := dCmp fun i j => decide (i ≤ j)
abbrev dGt := dCmp fun i j => decide (j < i)
abbrev dGe := dCmp fun i j => decide (j ≤ i)
def dEq : DOp := fun a b => if SeqAt.shaped a && SeqAt.shaped b then some (.bool (PyData.eqv a b), false) else none
def dNe : DOp := fun a b => if SeqAt.shaped a && SeqAt.shaped b then some (.bool (!PyData.eqv a b), false) else none
def dIs : DOp
  | .none, .none => some (.bool true, false)
  | _, .none => some (.bool false, false)
  | _, _ => none
def dIsN : DOp
  | .none, .none => some (.bool false, false)
  | _, .none => some (.bool true, false)
  | _, _ => none
def flatD : D → Bool
  | .none => true
  | .bool _ => true
  | .int _ => true
  | .str _ => true
  | _ => false
def inD (x : D) (xs : List D) : Bool := xs.any fun y => PyData.eqv y x
def dIn : DOp
  | x, .list xs => if flatD x && xs.all flatD then some (.bool (inD x xs), false) else if SeqAt.shaped x && SeqAt.shaped (.list xs) then some (.bool (inD x xs), false) else none
  | x, .tuple xs => if flatD x && xs.all flatD then some (.bool (inD x xs), false) else if SeqAt.shaped x && SeqAt.shaped (.tuple xs) then some (.bool (inD x xs), false) else none
  | .str x, .str y => some (.bool (!(Builtin.Str.occurrences y x 0 y.length 1).isEmpty), false)
  | _, _ => none
def dNotIn : DOp
  | x, .list xs => if flatD x && xs.all flatD then some (.bool (!inD x xs), false) else if SeqAt.shaped x && SeqAt.shaped (.list xs) then some (.bool (!inD x xs), false) else none
  | x, .tuple xs => if flatD x && xs.all flatD then some (.bool (!inD x xs), false) else if SeqAt.shaped x && SeqAt.shaped (.tuple xs) then some (.bool (!inD x xs), false) else none
  | .str x, .str y => some (.bool (!(!(Builtin.Str.occurrences y x 0 y.length 1).isEmpty)), false)
  | _, _ => none

section
variable {C : Ct}
theorem ok_I0 {g : Int → Int → V} {f : DOp} {h : Int → Int → D} (hf : ∀ v w p, f v w = some p → ∃ i j, v = .int i ∧ w = .int j ∧ p = (h i j, false)) (hr : ∀ i j W H, Rep C W H (g i j) (h i j)) : OpD C (rI0 g) f := fun G δ σ H x y v w p Q E rx ry e q => by
  obtain ⟨i, j, rfl, rfl, rfl⟩ := hf v w p e
  cases rx; cases ry
  exact ⟨i, j, rfl, rfl, atom E q (hr i j _ H)⟩
theorem ok_I {P : Int → Int → Prop} {g : Int → Int → V} {f : DOp} {h : Int → Int → D} (hf : ∀ v w p, f v w = some p → ∃ i j, v = .int i ∧ w = .int j ∧ p = (h i j, false) ∧ P i j) (hr : ∀ i j W H, Rep C W H (g i j) (h i j)) : OpD C (rI P g) f := fun G δ σ H x y v w p Q E rx ry e q => by
  obtain ⟨i, j, rfl, rfl, rfl, c⟩ := hf v w p e
  cases rx; cases ry
  exact ⟨i, j, rfl, rfl, c, atom E q (hr i j _ H)⟩
theorem od_sub : OpD C (rI0 fun i j => .int (i - j)) dSub := ok_I0 (h := fun i j => .int (i - j)) (fun v w p e => by unfold dSub at e; split at e <;> first | exact ⟨_, _, rfl, rfl, (Option.some.inj e).symm⟩ | cases e) fun i j W H => .int _
theorem od_and : OpD C (rI0 fun i j => .int (Builtin.bitAnd i j)) dAnd := ok_I0 (h := fun i j => .int (Builtin.bitAnd i j)) (fun v w p e => by unfold dAnd at e; split at e <;> first | exact ⟨_, _, rfl, rfl, (Option.some.inj e).symm⟩ | cases e) fun i j W H => .int _
theorem od_xor : OpD C (rI0 fun i j => .int (Builtin.bitXor i j)) dXor := ok_I0 (h := fun i j => .int (Builtin.bitXor i j)) (fun v w p e => by unfold dXor at e; split at e <;> first | exact ⟨_, _, rfl, rfl, (Option.some.inj e).symm⟩ | cases e) fun i j W H => .int _
theorem od_cmp {q : Int → Int → Bool} : OpD C (rI0 fun i j => .bl (q i j)) (dCmp q) := ok_I0 (h := fun i j => .bool (q i j)) (fun v w p e => by unfold dCmp at e; split at e <;> first | exact ⟨_, _, rfl, rfl, (Option.some.inj e).symm⟩ | cases e) fun i j W H => .bl _
theorem od_div : OpD C (rI CDivW fun i j => .int (i / j)) dDiv := ok_I (h := fun i j => .int (i / j)) (fun v w p e => by
  unfold dDiv at e
  split at e
  · split at e
    · rename_i c; exact ⟨_, _, rfl, rfl, (Option.some.inj e).symm, c⟩
    · cases e
  · cases e) fun i j W H => .int _
theorem od_mod : OpD C (rI (fun _ j => 0 < j) fun i j => .int (i % j)) dMod := ok_I (h := fun i j => .int (i % j)) (fun v w p e => by
  unfold dMod at e
  split at e
  · split at e
    · rename_i c; exact ⟨_, _, rfl, rfl, (Option.some.inj e).symm, c⟩
    · cases e
  · cases e) fun i j W H => .int _
theorem od_shr : OpD C (rI (fun _ j => 0 ≤ j) fun i j => .int (i / 2 ^ j.toNat)) dShr := ok_I (h := fun i j => .int (i / 2 ^ j.toNat)) (fun v w p e => by
  unfold dShr at e
  split at e
  · split at e
    · rename_i c; exact ⟨_, _, rfl, rfl, (Option.some.inj e).symm, c⟩
    · cases e
  · cases e) fun i j W H => .int _
theorem od_shl : OpD C (rI CShl fun i j => .int (i * 2 ^ j.toNat)) dShl := ok_I (h := fun i j => .int (i * 2 ^ j.toNat)) (fun v w p e => by
  unfold dShl at e
  split at e
  · split at e
    · rename_i c
      refine ⟨_, _, rfl, rfl, (Option.some.inj e).symm, c.1, ?_⟩
      have := of_decide_eq_true (show decide _ = true from c.2)
      have e2 : (2 : Int) ^ 27 = 134217728 := by decide
      omega
    · cases e
  · cases e) fun i j W H => .int _
/-- ** of ints -/
def CPowW (i j : Int) : Prop := 0 ≤ j ∧ (Builtin.Int.intBits i : Int) * j ≤ 2 ^ 27
theorem op_powW {X : Cx} : OpR X (binaryOp .Pow) (rI CPowW fun i j => .int (i ^ j.toNat)) := opI fun _ _ _ _ _ _ _ hc q => pow_int hc.1 hc.2 q
theorem od_pow : OpD C (rI CPowW fun i j => .int (i ^ j.toNat)) dPow := ok_I (h := fun i j => .int (i ^ j.toNat)) (fun v w p e => by
  unfold dPow at e
  split at e
  · split at e
    · rename_i c
      refine ⟨_, _, rfl, rfl, (Option.some.inj e).symm, c.1, ?_⟩
      have h := of_decide_eq_true (show decide _ = true from c.2)
      have e2 : (2 : Int) ^ 27 = 134217728 := by decide
      rw [e2]; exact h
    · cases e
  · cases e) fun i j W H => .int _
/-- a join of two rules -/
theorem OpD.orL {r r' : R2} {f : DOp} (h : ∀ (G : Gh) (δ : Sl) (σ : St) (H : Hp) (x y : V) (v w : D) (p : D × Bool) (Q : VK), ERel C G δ σ H → Rep C (WW G δ σ) H x v → Rep C (WW G δ σ) H y w → f v w = some p →
  (∀ u H', ERel C G δ σ H' → Ext δ σ H δ σ H' → Rep C (WW G δ σ) H' u p.1 → (p.2 = true → FreshN C G δ H δ σ H' u p.1) → Q u H') → r x y H Q ∨ r' x y H Q) : OpD C (fun x y H Q => r x y H Q ∨ r' x y H Q) f := h
def rAddA : R2 := fun x y H Q => (∃ i j, x = .int i ∧ y = .int j ∧ Q (.int (i + j)) H) ∨ ((∃ i j, x = .str i ∧ y = .str j ∧ i.length + j.length ≤ sizeLine ∧ Q (.str (i ++ j)) H) ∨ rCat x y H Q)
theorem op_addA {X : Cx} : OpR X (binaryOp .Add) rAddA := OpR.or op_add (OpR.or op_add_str op_cat)
theorem od_add : OpD C rAddA dAdd := fun G δ σ H x y v w p Q E rx ry e q => by
  unfold dAdd at e
  split at e
  · cases e; cases rx; cases ry
    exact .inl ⟨_, _, rfl, rfl, atom E q (.int _)⟩
  · split at e
    · rename_i hl
      cases e; cases rx; cases ry
      exact .inr (.inl ⟨_, _, rfl, rfl, by rw [← line_eq]; exact hl, atom E q (.str _)⟩)
    · cases e
  · split at e
    · rename_i hl
      cases e
      cases rx with
      | lst n1 h1 r1 =>
        cases ry with
        | lst n2 h2 r2 =>
          have hz := hl
          rw [line_eq, ← r1.length, ← r2.length] at hz
          exact .inr (.inr ⟨_, _, _, _, rfl, rfl, h1, h2, hz, fun p hp => newl E q (r1.append r2) (by rw [List.length_append]; exact hz) hp⟩)
    · cases e
  · cases e
theorem RepL.rep {W : Addr → Prop} {H : Hp} {xs : List V} {ds : List D} (h : RepL C W H xs ds) : ∀ k : Nat, RepL C W H (List.replicate k xs).flatten (List.replicate k ds).flatten
  | 0 => .nil
  | k + 1 => by rw [List.replicate_succ, List.replicate_succ, List.flatten_cons, List.flatten_cons]; exact h.append (RepL.rep h k)
def rMulA : R2 := fun x y H Q => rI CMulX (fun i j => .int (i * j)) x y H Q ∨ rRep x y H Q
theorem op_mulA {X : Cx} : OpR X (binaryOp .Mult) rMulA := OpR.or op_mulX op_rep
theorem len_rep {α : Type} (xs : List α) (k : Nat) : ((List.replicate k xs).flatten).length = xs.length * k := by
  rw [List.length_flatten, List.map_replicate, List.sum_replicate_nat]; exact Nat.mul_comm _ _
theorem od_mul : OpD C rMulA dMul := fun G δ σ H x y v w p Q E rx ry e q => by
  unfold dMul at e
  split at e
  · split at e
    · rename_i c
      cases e; cases rx; cases ry
      exact .inl ⟨_, _, rfl, rfl, (show _ ≤ _ from of_decide_eq_true c), atom E q (.int _)⟩
    · cases e
  · split at e
    · rename_i c
      cases e; cases ry
      cases rx with
      | lst n1 h1 r1 =>
        have hz := c.2.2
        rw [line_eq, ← r1.length] at hz
        refine .inr ⟨_, _, _, rfl, rfl, h1, by have := c.1; omega, by have := c.2.1; omega, hz, fun p hp => ?_⟩
        exact newl E q (r1.rep _) (by rw [len_rep]; exact hz) hp
    · cases e
  · cases e
mutual
theorem Rep.dp {W : Addr → Prop} {H : Hp} : ∀ {v : V} {d : D}, Rep C W H v d → PyData.canLay0 d = true → Dp C.K H v d
  | _, _, .non, _ => .non
  | _, _, .bl b, _ => .bl b
  | _, _, .int i, _ => .int i
  | _, _, .str x, _ => .str x
  | _, _, .lst _ h t, z => .lst (SqL.of h) (RepL.dp t (by simpa [PyData.canLay0] using z))
  | _, _, .tup h t, z => .tup h (RepL.dp t (by simpa [PyData.canLay0] using z))
  | _, _, .scr _ _, z => by simp [PyData.canLay0] at z
  | _, _, .tyb _, z => by simp [PyData.canLay0] at z
  | _, _, .tyo, z => by simp [PyData.canLay0] at z
  | _, _, .dct _ _, z => by simp [PyData.canLay0] at z
  | _, _, .dki _ _, z => by simp [PyData.canLay0] at z
  | _, _, .exc0 _, z => by simp [PyData.canLay0] at z
  | _, _, .exc1 _ _ _, z => by simp [PyData.canLay0] at z
theorem RepL.dp {W : Addr → Prop} {H : Hp} : ∀ {v : List V} {d : List D}, RepL C W H v d → PyData.canLayAll0 d = true → DpAll C.K H v d
  | _, _, .nil, _ => .nil
  | _, _, .cons r t, z => by
    have z' := Bool.and_eq_true_iff.mp (show (PyData.canLay0 _ && PyData.canLayAll0 _) = true by simpa [PyData.canLayAll0] using z)
    exact .cons (Rep.dp r z'.1) (RepL.dp t z'.2)
end
theorem Rep.dps {W : Addr → Prop} {H : Hp} {v : V} {d : D} (h : Rep C W H v d) (z : SeqAt.shaped d = true) : Dp C.K H v d := h.dp (SeqAt.canLay_of_shaped z)
theorem od_eq : OpD C (rEqD C.K) dEq := fun G δ σ H x y v w p Q E rx ry e q => by
  unfold dEq at e
  split at e
  · rename_i c
    rw [Bool.and_eq_true] at c
    cases e
    exact ⟨v, w, rx.dps c.1, ry.dps c.2, c.1, c.2, atom E q (.bl _)⟩
  · cases e
theorem od_ne : OpD C (rNeD C.K) dNe := fun G δ σ H x y v w p Q E rx ry e q => by
  unfold dNe at e
  split at e
  · rename_i c
    rw [Bool.and_eq_true] at c
    cases e
    exact ⟨v, w, rx.dps c.1, ry.dps c.2, c.1, c.2, atom E q (.bl _)⟩
  · cases e
theorem Rep.non_iff {W : Addr → Prop} {H : Hp} {v : V} {d : D} (h : Rep C W H v d) : decide (v = .non) = (match d with | .none => true | _ => false) := by
  cases h <;> rfl
theorem od_is : OpD C (fun x y H Q => y = .non ∧ Q (.bl (decide (x = .non))) H) dIs := fun G δ σ H x y v w p Q E rx ry e q => by
  unfold dIs at e
  split at e
  · cases e; cases ry; cases rx
    exact ⟨rfl, atom E q (.bl _)⟩
  · rename_i hn
    cases e; cases ry
    have z := rx.non_iff
    refine ⟨rfl, atom E q ?_⟩
    rw [z]
    cases v <;> first | exact .bl _ | exact absurd rfl hn | exact absurd rfl (hn · rfl)
  · cases e
theorem od_isN : OpD C (fun x y H Q => y = .non ∧ Q (.bl (!decide (x = .non))) H) dIsN := fun G δ σ H x y v w p Q E rx ry e q => by
  unfold dIsN at e
  split at e
  · cases e; cases ry; cases rx
    exact ⟨rfl, atom E q (.bl _)⟩
  · rename_i hn
    cases e; cases ry
    have z := rx.non_iff
    refine ⟨rfl, atom E q ?_⟩
    rw [z]
    cases v <;> first | exact .bl _ | exact absurd rfl hn | exact absurd rfl (hn · rfl)
  · cases e
end
end DL

namespace DL
open PySem PySem.Spec L2
open PyProof.Rows hiding St

def some1 {δt : Type} (x : Option (D × Bool)) (δ : Sl) : EV := match x with
  | some p => .ok p δ
  | none => .stk
/-- a value or nothing, at the end of a reading -/
def fin (x : Option (D × Bool)) (δ : Sl) : EV := match x with
  | some p => .ok p δ
  | none => .stk
def gBin (f : DOp) (ga gb : Sl → EV) : Sl → EV := fun δ => (ga δ).bind fun x δ1 => (gb δ1).bind fun y δ2 => fin (f x.1 y.1) δ2
def gChain (f f' : DOp) (ga gb gc : Sl → EV) : Sl → EV := fun δ => (ga δ).bind fun x δ1 => (gb δ1).bind fun y δ2 => match f x.1 y.1 with
  | some (.bool true, _) => (gc δ2).bind fun z δ3 => fin (f' y.1 z.1) δ3
  | some (.bool false, _) => .ok (.bool false, false) δ2
  | _ => .stk
def gIf (gt : Sl → R Sl Bool) (ga gb : Sl → EV) : Sl → EV := fun δ => (gt δ).bind fun b δ1 => if b = true then ga δ1 else gb δ1
/-- a value as a test -/
def gTv (ga : Sl → EV) : Sl → R Sl Bool := fun δ => (ga δ).bind fun x δ1 => match x.1 with
  | .bool b => .ok b δ1
  | _ => .stk
def gNotT (gt : Sl → R Sl Bool) : Sl → R Sl Bool := fun δ => (gt δ).bind fun b δ1 => .ok (!b) δ1
def gAndT (gt gu : Sl → R Sl Bool) : Sl → R Sl Bool := fun δ => (gt δ).bind fun b δ1 => if b = true then gu δ1 else .ok false δ1
def gOrT (gt gu : Sl → R Sl Bool) : Sl → R Sl Bool := fun δ => (gt δ).bind fun b δ1 => if b = true then .ok true δ1 else gu δ1
def gAndV (ga gb : Sl → EV) : Sl → EV := fun δ => (ga δ).bind fun x δ1 => match x.1 with
  | .bool true => gb δ1
  | .bool false => .ok (.bool false, false) δ1
  | _ => .stk
def gOrV (ga gb : Sl → EV) : Sl → EV := fun δ => (ga δ).bind fun x δ1 => match x.1 with
  | .bool true => .ok (.bool true, false) δ1
  | .bool false => gb δ1
  | _ => .stk
def gNotV (ga : Sl → EV) : Sl → EV := fun δ => (ga δ).bind fun x δ1 => match x.1 with
  | .bool b => .ok (.bool (!b), false) δ1
  | _ => .stk
def gaNil : Sl → R Sl (List D) := fun δ => .ok [] δ
def gaCons (ga : Sl → EV) (gr : Sl → R Sl (List D)) : Sl → R Sl (List D) := fun δ => (ga δ).bind fun x δ1 => (gr δ1).bind fun xs δ2 => .ok (x.1 :: xs) δ2
def gaStar (ga : Sl → EV) (gr : Sl → R Sl (List D)) : Sl → R Sl (List D) := fun δ => (ga δ).bind fun x δ1 => match x.1 with
  | .list ys => (gr δ1).bind fun xs δ2 => .ok (ys ++ xs) δ2
  | .tuple ys => (gr δ1).bind fun xs δ2 => .ok (ys ++ xs) δ2
  | _ => .stk
def gLst (ga : Sl → R Sl (List D)) : Sl → EV := fun δ => (ga δ).bind fun xs δ1 => if xs.length ≤ LINE then .ok (.list xs, true) δ1 else .stk
def gTup (ga : Sl → R Sl (List D)) : Sl → EV := fun δ => (ga δ).bind fun xs δ1 => if xs.length ≤ LINE then .ok (.tuple xs, false) δ1 else .stk
def gCall (f : List D → Option (D × Bool)) (ga : Sl → R Sl (List D)) : Sl → EV := fun δ => (ga δ).bind fun xs δ1 => fin (f xs) δ1
def slotD (i : Nat) (δ : Sl) : Option D := match δ[i]? with
  | some (some (_, d)) => some d
  | _ => none
/-- a slot's data and another value's, read behind the other -/
def gSlotBin (f : DOp) (i : Nat) (gb : Sl → EV) : Sl → EV := fun δ => match slotD i δ with
  | none => .stk
  | some _ => (gb δ).bind fun y δ1 => match slotD i δ1 with
    | some d => match f d y.1 with
      | some (e, false) => .ok (e, false) δ1
      | _ => .stk
    | none => .stk
def gBinSlot (f : DOp) (ga : Sl → EV) (i : Nat) : Sl → EV := fun δ => (ga δ).bind fun x δ1 => match slotD i δ1 with
  | some d => match f x.1 d with
    | some (e, false) => .ok (e, false) δ1
    | _ => .stk
  | none => .stk

section
variable {C : Ct} {W : WX} {G : Gh} {δ δ1 : Sl} {σ : St} {H H1 : Hp} {X : Cx} {a b c : Expr} {ga gb gc : Sl → EV} {gt gu : Sl → R Sl Bool} {pos : Pos} {Q : VK}
theorem fin_ok {x : Option (D × Bool)} {k : D × Bool → Sl → Hp → Prop} (p : Post C W G δ σ H k (fin x δ1)) : ∃ q, x = some q ∧ Post C W G δ σ H k (.ok q δ1) := by
  cases x with
  | none => exact p.elim
  | some q => exact ⟨q, rfl, p⟩
/-- the wish behind an expression, at its own moment -/
theorem now {x : D × Bool} {δ0 : Sl} {H0 : Hp} (E : ERel C G δ σ H) (p : Post C W G δ σ H (kE C G δ0 σ H0 Q) (.ok x δ)) : ∀ v, Rep C (WW G δ σ) H v x.1 → (x.2 = true → FreshN C G δ0 H0 δ σ H v x.1) → Q v H := fun v r f => p H E Ext.refl v r f
theorem tD_op {r : R2} {f : DOp} (od : OpD C r f) (σ : St) (H : Hp) (Q : VK) (h : tD C W G (gBin f ga gb) σ H Q) : tOp r (tD C W G ga) (tD C W G gb) σ H Q := by
  obtain ⟨δ, E, p⟩ := h
  refine ⟨δ, E, (Post.bind p).imp fun x δ1 H1 E1 X1 p1 v rv _ => ⟨δ1, E1, (Post.bind p1).imp fun y δ2 H2 E2 X2 p2 w rw _ => ?_⟩⟩
  obtain ⟨q, e, p3⟩ := fin_ok (p2.at (X1.trans X2))
  exact od G δ2 σ H2 v w x.1 y.1 q Q E2 (X2.rep rv) rw e fun u H' E' X' r' f' => p3 H' E' X' u r' f'
theorem pd_bin {op : Operator} {r : R2} {f : DOp} (ho : OpR X (binaryOp op) r) (od : OpD C r f) (ha : PE X a (tD C W G ga)) (hb : PE X b (tD C W G gb)) : PE X (.BinOp a op b pos) (tD C W G (gBin f ga gb)) :=
  PE.imp (pe_op ho ha hb) (tD_op od)
theorem pd_cmp {op : CmpOp} {r : R2} {f : DOp} (ho : OpR X (compareOp op) r) (od : OpD C r f) (ha : PE X a (tD C W G ga)) (hb : PE X b (tD C W G gb)) (hm : behindInMarks op b = false) : PE X (.Compare a [op] [b] pos) (tD C W G (gBin f ga gb)) :=
  PE.imp (pe_cmpR ho ha hb hm) (tD_op od)
/-- a test by a value -/
theorem tD_tv (σ : St) (H : Hp) (Q : Bool → Hp → Prop) (h : tT C W G (gTv ga) σ H Q) : tD C W G ga σ H fun x H' => ∃ k, x = .bl k ∧ Q k H' := by
  obtain ⟨δ, E, p⟩ := h
  refine ⟨δ, E, (Post.bind p).imp fun x δ1 H1 E1 X1 p1 v rv _ => ?_⟩
  obtain ⟨d, fr⟩ := x
  cases d <;> first | exact (show False from p1).elim | skip
  cases rv
  exact ⟨_, rfl, p1 H1 E1 Ext.refl⟩
theorem ptd_cmp {op : CmpOp} {r : R2} {f : DOp} (ho : OpR X (compareOp op) r) (od : OpD C r f) (ha : PE X a (tD C W G ga)) (hb : PE X b (tD C W G gb)) (hm : behindInMarks op b = false) : PT X (.Compare a [op] [b] pos) (tT C W G (gTv (gBin f ga gb))) :=
  PT.imp (pt_cmpR ho ha hb hm) fun σ H Q h => tD_op od σ H _ (tD_tv σ H Q h)
theorem ptd_val (h : PE X a (tD C W G ga)) (he : ∀ whole, isTrue a X.env whole = (do let v ← whole; standAt a.pos; holding [v] (truthy v)) := by intro _; rfl) : PT X a (tT C W G (gTv ga)) :=
  PT.imp (pt_val h he) fun σ H Q h => tD_tv σ H Q h
theorem ptd_not (h : PT X a (tT C W G gt)) : PT X (.UnaryOp .Not a pos) (tT C W G (gNotT gt)) := PT.imp (pt_not h) fun σ H Q ⟨δ, E, p⟩ =>
  ⟨δ, E, (Post.bind p).imp fun x δ1 H1 E1 X1 p1 => p1 H1 E1 Ext.refl⟩
theorem pwd_and1 (h : PT X a (tT C W G gt)) : PW X (.BoolOp .And [a] pos) (tT C W G gt) := pw_and1 h
theorem pwd_or1 (h : PT X a (tT C W G gt)) : PW X (.BoolOp .Or [a] pos) (tT C W G gt) := pw_or1 h
theorem PW.imp {e : Expr} {t t' : TT} (h : PW X e t) (hi : ∀ σ H Q, t' σ H Q → t σ H Q) : PW X e t' := ⟨fun w pins s σ H Q I q => h.run w pins s σ H Q I (hi σ H Q q)⟩
theorem pwd_and {rest : List Expr} (ha : PT X a (tT C W G gt)) (hb : PW X (.BoolOp .And (b :: rest) pos) (tT C W G gu)) : PW X (.BoolOp .And (a :: b :: rest) pos) (tT C W G (gAndT gt gu)) := PW.imp (pw_and ha hb) fun σ H Q ⟨δ, E, p⟩ =>
  ⟨δ, E, (Post.bind p).imp fun x δ1 H1 E1 X1 p1 => by
    cases x with
    | true => exact iteT (A := tT C W G gu σ H1 Q) (B := Q false H1) ⟨δ1, E1, p1⟩
    | false => exact iteF (A := tT C W G gu σ H1 Q) (B := Q false H1) (p1 H1 E1 Ext.refl)⟩
theorem pwd_or {rest : List Expr} (ha : PT X a (tT C W G gt)) (hb : PW X (.BoolOp .Or (b :: rest) pos) (tT C W G gu)) : PW X (.BoolOp .Or (a :: b :: rest) pos) (tT C W G (gOrT gt gu)) := PW.imp (pw_or ha hb) fun σ H Q ⟨δ, E, p⟩ =>
  ⟨δ, E, (Post.bind p).imp fun x δ1 H1 E1 X1 p1 => by
    cases x with
    | true => exact iteT (A := Q true H1) (B := tT C W G gu σ H1 Q) (p1 H1 E1 Ext.refl)
    | false => exact iteF (A := Q true H1) (B := tT C W G gu σ H1 Q) ⟨δ1, E1, p1⟩⟩
theorem pd_one {op} (h : PE X a (tD C W G ga)) : PE X (.BoolOp op [a] pos) (tD C W G ga) := pe_one h
theorem pd_and {rest : List Expr} (ha : PE X a (tD C W G ga)) (hb : PE X (.BoolOp .And (b :: rest) pos) (tD C W G gb)) : PE X (.BoolOp .And (a :: b :: rest) pos) (tD C W G (gAndV ga gb)) := PE.imp (pe_and ha hb) fun σ H Q ⟨δ, E, p⟩ =>
  ⟨δ, E, (Post.bind p).imp fun x δ1 H1 E1 X1 p1 v rv _ => by
    obtain ⟨d, fr⟩ := x
    cases d with
    | bool k =>
      cases rv
      cases k with
      | true => exact ⟨true, rfl, iteT (A := tD C W G gb σ H1 Q) (B := Q (.bl false) H1) ⟨δ1, E1, p1.at X1⟩⟩
      | false => exact ⟨false, rfl, iteF (A := tD C W G gb σ H1 Q) (B := Q (.bl false) H1) (now E1 p1 _ (.bl false) fun z => nomatch z)⟩
    | _ => exact (show False from p1).elim⟩
theorem pd_or {rest : List Expr} (ha : PE X a (tD C W G ga)) (hb : PE X (.BoolOp .Or (b :: rest) pos) (tD C W G gb)) : PE X (.BoolOp .Or (a :: b :: rest) pos) (tD C W G (gOrV ga gb)) := PE.imp (pe_or ha hb) fun σ H Q ⟨δ, E, p⟩ =>
  ⟨δ, E, (Post.bind p).imp fun x δ1 H1 E1 X1 p1 v rv _ => by
    obtain ⟨d, fr⟩ := x
    cases d with
    | bool k =>
      cases rv
      cases k with
      | true => exact ⟨true, rfl, iteT (A := Q (.bl true) H1) (B := tD C W G gb σ H1 Q) (now E1 p1 _ (.bl true) fun z => nomatch z)⟩
      | false => exact ⟨false, rfl, iteF (A := Q (.bl true) H1) (B := tD C W G gb σ H1 Q) ⟨δ1, E1, p1.at X1⟩⟩
    | _ => exact (show False from p1).elim⟩
theorem pd_not (ha : PE X a (tD C W G ga)) : PE X (.UnaryOp .Not a pos) (tD C W G (gNotV ga)) := PE.imp (pe_not ha) fun σ H Q ⟨δ, E, p⟩ =>
  ⟨δ, E, (Post.bind p).imp fun x δ1 H1 E1 X1 p1 v rv _ => by
    obtain ⟨d, fr⟩ := x
    cases d <;> first | exact (show False from p1).elim | skip
    cases rv
    exact ⟨_, rfl, now E1 p1 _ (.bl _) fun z => nomatch z⟩⟩
theorem pd_if {t : Expr} (ht : PT X t (tT C W G gt)) (ha : PE X a (tD C W G ga)) (hb : PE X b (tD C W G gb)) : PE X (.IfExp t a b pos) (tD C W G (gIf gt ga gb)) := PE.imp (pe_ifExp ht ha hb) fun σ H Q ⟨δ, E, p⟩ =>
  ⟨δ, E, (Post.bind p).imp fun x δ1 H1 E1 X1 p1 => by
    cases x with
    | true => exact iteT (A := tD C W G ga σ H1 Q) (B := tD C W G gb σ H1 Q) ⟨δ1, E1, p1.at X1⟩
    | false => exact iteF (A := tD C W G ga σ H1 Q) (B := tD C W G gb σ H1 Q) ⟨δ1, E1, p1.at X1⟩⟩
theorem tD_chain {r r' : R2} {f f' : DOp} (od : OpD C r f) (od' : OpD C r' f') (σ : St) (H : Hp) (Q : VK) (h : tD C W G (gChain f f' ga gb gc) σ H Q) : tChain r r' (tD C W G ga) (tD C W G gb) (tD C W G gc) σ H Q := by
  obtain ⟨δ, E, p⟩ := h
  refine ⟨δ, E, (Post.bind p).imp fun x δ1 H1 E1 X1 p1 v rv _ => ⟨δ1, E1, (Post.bind p1).imp fun y δ2 H2 E2 X2 p2 w rw _ => ?_⟩⟩
  have p2' : Post C W G δ2 σ H2 (kE C G δ2 σ H2 Q) (match f x.1 y.1 with
    | some (.bool true, _) => (gc δ2).bind fun z δ3 => fin (f' y.1 z.1) δ3
    | some (.bool false, _) => .ok (.bool false, false) δ2
    | _ => .stk) := p2.at (X1.trans X2)
  split at p2'
  · rename_i fr e
    refine od G δ2 σ H2 v w x.1 y.1 _ _ E2 (X2.rep rv) rw e fun u H' E' X' r' f' => ?_
    cases r'
    refine ⟨true, rfl, iteT ⟨δ2, E', (Post.bind (p2'.later X')).imp fun z δ3 H3 E3 X3 p3 t rt _ => ?_⟩⟩
    obtain ⟨q, e, p4⟩ := fin_ok (p3.at (X'.trans X3))
    exact od' G δ3 σ H3 w t y.1 z.1 q Q E3 (X3.rep (X'.rep rw)) rt e fun u H' E' X' r' f' => p4 H' E' X' u r' f'
  · rename_i fr e
    refine od G δ2 σ H2 v w x.1 y.1 _ _ E2 (X2.rep rv) rw e fun u H' E' X' r' f' => ?_
    cases r'
    exact ⟨false, rfl, iteF (p2' H' E' X' _ (.bl false) fun z => nomatch z)⟩
  · exact p2'.elim
theorem pd_chain {op op' : CmpOp} {r r' : R2} {f f' : DOp} (ho : OpR X (compareOp op) r) (od : OpD C r f) (ho' : OpR X (compareOp op') r') (od' : OpD C r' f') (ha : PE X a (tD C W G ga)) (hb : PE X b (tD C W G gb)) (hc : PE X c (tD C W G gc))
    (hm : lastMarks [op, op'] [b, c] = false := by with_unfolding_all rfl) : PE X (.Compare a [op, op'] [b, c] pos) (tD C W G (gChain f f' ga gb gc)) := PE.imp (pe_chain ho ho' ha hb hc hm) (tD_chain od od')
theorem ptd_chain {op op' : CmpOp} {r r' : R2} {f f' : DOp} (ho : OpR X (compareOp op) r) (od : OpD C r f) (ho' : OpR X (compareOp op') r') (od' : OpD C r' f') (ha : PE X a (tD C W G ga)) (hb : PE X b (tD C W G gb)) (hc : PE X c (tD C W G gc))
    (hm : lastMarks [op, op'] [b, c] = false := by with_unfolding_all rfl) : PT X (.Compare a [op, op'] [b, c] pos) (tT C W G (gTv (gChain f f' ga gb gc))) := PT.imp (pt_chain ho ho' ha hb hc hm) fun σ H Q h => tD_chain od od' σ H _ (tD_tv σ H Q h)

variable {e : Expr} {es : List Expr} {gr gs : Sl → R Sl (List D)}
theorem pad_nil : PA X [] (tA C W G gaNil) := PA.imp pa_nil fun σ H Q ⟨δ, E, p⟩ => p H E Ext.refl [] .nil
theorem pad_cons (ha : PE X e (tD C W G ga)) (hr : PA X es (tA C W G gr)) (hs : starEach (e :: es) X.env = (false, eval e X.env) :: starEach es X.env := by rfl) : PA X (e :: es) (tA C W G (gaCons ga gr)) := PA.imp (pa_cons ha hr hs) fun σ H Q ⟨δ, E, p⟩ =>
  ⟨δ, E, (Post.bind p).imp fun x δ1 H1 E1 X1 p1 v rv _ => ⟨δ1, E1, (Post.bind p1).imp fun y δ2 H2 E2 X2 p2 vs rs => p2 H2 E2 Ext.refl (v :: vs) (.cons (X2.rep rv) rs)⟩⟩
theorem pad_star {p : Pos} (ha : PE X e (tD C W G ga)) (hr : PA X es (tA C W G gr)) (hs : starEach (.Starred e p :: es) X.env = (true, eval e X.env) :: starEach es X.env := by rfl) (hK : X.K = C.K := by rfl) : PA X (.Starred e p :: es) (tA C W G (gaStar ga gr)) := PA.imp (StX.pa_star ha hr hs) fun σ H Q ⟨δ, E, p⟩ =>
  ⟨δ, E, (Post.bind p).imp fun x δ1 H1 E1 X1 p1 v rv _ => by
    obtain ⟨d, fr⟩ := x
    cases d <;> first | exact (show False from p1).elim | skip
    · cases rv with
      | lst n h r => exact ⟨_, _, rfl, .inr (SqL.of h), δ1, E1, (Post.bind p1).imp fun y δ2 H2 E2 X2 p2 vs rs => p2 H2 E2 Ext.refl (_ ++ vs) ((X2.repL r).append rs)⟩
    · cases rv with
      | tup h r => exact ⟨_, _, rfl, .inl (hK ▸ h), δ1, E1, (Post.bind p1).imp fun y δ2 H2 E2 X2 p2 vs rs => p2 H2 E2 Ext.refl (_ ++ vs) ((X2.repL r).append rs)⟩⟩
theorem pd_lst (h : PA X es (tA C W G gr)) : PE X (.List es pos) (tD C W G (gLst gr)) := PE.imp (pe_lst h) fun σ H Q ⟨δ, E, p⟩ =>
  ⟨δ, E, (Post.bind p).imp fun x δ1 H1 E1 X1 p1 vs rs => by
    have p1' : Post C W G δ1 σ H1 (kE C G δ1 σ H1 Q) (if x.length ≤ LINE then .ok (.list x, true) δ1 else .stk) := p1.at X1
    split at p1'
    · rename_i hl
      rw [line_eq, ← rs.length] at hl
      exact ⟨hl, fun q hq => newl E1 (fun u H' E' X' r' f' => p1' H' E' X' u r' f') rs hl hq⟩
    · exact p1'.elim⟩
theorem pd_tup {x1} (h : PA X es (tA C W G gr)) : PE X (.Tuple es x1 pos) (tD C W G (gTup gr)) := PE.imp (pe_tup h) fun σ H Q ⟨δ, E, p⟩ =>
  ⟨δ, E, (Post.bind p).imp fun x δ1 H1 E1 X1 p1 vs rs => by
    have p1' : Post C W G δ1 σ H1 (kE C G δ1 σ H1 Q) (if x.length ≤ LINE then .ok (.tuple x, false) δ1 else .stk) := p1.at X1
    split at p1'
    · rename_i hl
      rw [line_eq, ← rs.length] at hl
      exact ⟨hl, fun q hq => newt E1 (fun u H' E' X' r' f' => p1' H' E' X' u r' f') rs hq⟩
    · exact p1'.elim⟩

def CallD (C : Ct) (r : List V → Hp → VK → Prop) (f : List D → Option (D × Bool)) : Prop := ∀ (G : Gh) (δ : Sl) (σ : St) (H : Hp) (xs : List V) (ds : List D) (p : D × Bool) (Q : VK), ERel C G δ σ H → RepL C (WW G δ σ) H xs ds → f ds = some p →
  (∀ u H', ERel C G δ σ H' → Ext δ σ H δ σ H' → Rep C (WW G δ σ) H' u p.1 → (p.2 = true → FreshN C G δ H δ σ H' u p.1) → Q u H') → r xs H Q
theorem tD_call {r : List V → Hp → VK → Prop} {f : List D → Option (D × Bool)} (cd : CallD C r f) (σ : St) (H : Hp) (Q : VK) (h : tD C W G (gCall f gr) σ H Q) : tCB r (tA C W G gr) σ H Q := by
  obtain ⟨δ, E, p⟩ := h
  refine ⟨δ, E, (Post.bind p).imp fun x δ1 H1 E1 X1 p1 vs rs => ?_⟩
  obtain ⟨q, e, p2⟩ := fin_ok (p1.at X1)
  exact cd G δ1 σ H1 vs x q Q E1 rs e fun u H' E' X' r' f' => p2 H' E' X' u r' f'
theorem pd_callB {x : Str} {id : String} {p : Pos} {r : List V → Hp → VK → Prop} {f : List D → Option (D × Bool)} (hc : CallR X (.builtin id) r) (cd : CallD C r f) (hg : Gl X x) (hm : X.mg x = none) (hv : bootBuiltins x = some (.builtin id)) (ha : PA X (e :: es) (tA C W G gr)) (hn : x ≠ "__name__" := by decide) (hdb : (x == ("__debug__" : Str)) = false := by decide)
    (he : starEach (e :: es) X.env = (false, eval e X.env) :: starEach es X.env := by rfl) (hpl : (backTo pos (starEach es X.env)).any (·.1) = false := by rfl) : PE X (.Call (.Name x p) (e :: es) [] pos) (tD C W G (gCall f gr)) := PE.imp (pe_callB hc hg hm hv ha hn hdb he hpl) (tD_call cd)
theorem pd_callTy {x : Str} {T : String} {p : Pos} {r : List V → Hp → VK → Prop} {f : List D → Option (D × Bool)} (hc : CallR X (.type T) r) (cd : CallD C r f) (hg : Gl X x) (hm : X.mg x = none) (hv : bootBuiltins x = some (.type T)) (ha : PA X (e :: es) (tA C W G gr)) (hn : x ≠ "__name__" := by decide) (hdb : (x == ("__debug__" : Str)) = false := by decide)
    (he : starEach (e :: es) X.env = (false, eval e X.env) :: starEach es X.env := by rfl) (hpl : (backTo pos (starEach es X.env)).any (·.1) = false := by rfl) : PE X (.Call (.Name x p) (e :: es) [] pos) (tD C W G (gCall f gr)) := PE.imp (pe_callTy hc hg hm hv ha hn hdb he hpl) (tD_call cd)
end
end DL

namespace DL
open PySem PySem.Spec L2
open PyProof.Rows hiding St

/-- the data, or a list that is a slot's own -/
def Bor (C : Ct) (W : Addr → Prop) (H : Hp) (v : V) (d : D) : Prop := Rep C W H v d ∨ ∃ a xs ds, v = .ref a ∧ d = .list ds ∧ H a = some (.lst xs) ∧ RepL C W H xs ds
def BopL (C : Ct) (r : R2) (f : DOp) : Prop := ∀ (G : Gh) (δ : Sl) (σ : St) (H : Hp) (x y : V) (v w e : D) (Q : VK), ERel C G δ σ H → Bor C (WW G δ σ) H x v → Rep C (WW G δ σ) H y w → f v w = some (e, false) →
  (∀ u, Rep C (WW G δ σ) H u e → Q u H) → r x y H Q
def BopR (C : Ct) (r : R2) (f : DOp) : Prop := ∀ (G : Gh) (δ : Sl) (σ : St) (H : Hp) (x y : V) (v w e : D) (Q : VK), ERel C G δ σ H → Rep C (WW G δ σ) H x v → Bor C (WW G δ σ) H y w → f v w = some (e, false) →
  (∀ u, Rep C (WW G δ σ) H u e → Q u H) → r x y H Q
section
variable {C : Ct} {W : WX} {G : Gh} {δ δ1 : Sl} {σ : St} {H H1 : Hp} {X : Cx} {a b c e : Expr} {es : List Expr} {ga gb gc : Sl → EV} {gr : Sl → R Sl (List D)} {pos : Pos} {Q : VK}
theorem ERel.slot (E : ERel C G δ σ H) {i : Nat} {d : D} (h : slotD i δ = some d) : ∃ v, σ[i]? = some (some v) ∧ Bor C (WW G δ σ) H v d := by
  unfold slotD at h
  split at h
  · rename_i m d' e
    cases h
    cases m with
    | false =>
      obtain ⟨v, h1, h2⟩ := E.sh i d e
      exact ⟨v, h1, .inl h2⟩
    | true =>
      obtain ⟨a, xs, ds, h1, h2, h3, h4, _⟩ := E.ow i d e
      exact ⟨_, h1, .inr ⟨a, xs, ds, rfl, h2, h3, h4⟩⟩
  · cases h
theorem tD_slotBin {r : R2} {f : DOp} {i : Nat} (od : BopL C r f) (σ : St) (H : Hp) (Q : VK) (h : tD C W G (gSlotBin f i gb) σ H Q) : tOp r (tVar i) (tD C W G gb) σ H Q := by
  obtain ⟨δ, E, p⟩ := h
  unfold gSlotBin at p
  split at p
  · exact p.elim
  · rename_i d0 h0
    obtain ⟨v, hv, _⟩ := E.slot h0
    refine ⟨v, hv, δ, E, (Post.bind p).imp fun y δ1 H1 E1 X1 p1 w rw _ => ?_⟩
    split at p1
    · rename_i d1 h1
      obtain ⟨v', hv', rb⟩ := E1.slot h1
      rw [hv] at hv'; cases hv'
      split at p1
      · rename_i e he
        exact od G δ1 σ H1 v w d1 y.1 e Q E1 rb rw he fun u ru => now E1 p1 u ru fun z => nomatch z
      · exact p1.elim
    · exact p1.elim
theorem tD_binSlot {r : R2} {f : DOp} {i : Nat} (od : BopR C r f) (σ : St) (H : Hp) (Q : VK) (h : tD C W G (gBinSlot f ga i) σ H Q) : tOp r (tD C W G ga) (tVar i) σ H Q := by
  obtain ⟨δ, E, p⟩ := h
  refine ⟨δ, E, (Post.bind p).imp fun x δ1 H1 E1 X1 p1 v rv _ => ?_⟩
  split at p1
  · rename_i d1 h1
    obtain ⟨w, hw, rb⟩ := E1.slot h1
    refine ⟨w, hw, ?_⟩
    split at p1
    · rename_i e he
      exact od G δ1 σ H1 v w x.1 d1 e Q E1 rv rb he fun u ru => now E1 p1 u ru fun z => nomatch z
    · exact p1.elim
  · exact p1.elim
/-- slot i behaves -/
theorem slot_later {i : Nat} {v : V} {d : D} (E1 : ERel C G δ1 σ H1) (hv : σ[i]? = some (some v)) (h1 : slotD i δ1 = some d) : Bor C (WW G δ1 σ) H1 v d := by
  obtain ⟨v', hv', rb⟩ := E1.slot h1
  rw [hv] at hv'; cases hv'
  exact rb

def dIx : DOp
  | .list xs, .int i => (atI xs i).map (·, false)
  | .tuple xs, .int i => (atI xs i).map (·, false)
  | .dict [(.bool true, .list xs)], .int i => (atI xs i).map (·, false)
  | .str z, .int i => if z.length ≤ LINE then (atI z.cps.toList i).map fun c => (.str ⟨#[c]⟩, false) else none
  | _, _ => none
theorem RepL.atI {W : Addr → Prop} {xs : List V} {ds : List D} {i : Int} {d : D} (r : RepL C W H xs ds) (h : atI ds i = some d) : ∃ v, L2.atI xs i = some v ∧ Rep C W H v d := by
  unfold L2.atI at h ⊢
  rw [r.length]
  cases e : ixN ds.length i with
  | none => rw [e] at h; cases h
  | some j =>
    rw [e] at h
    exact r.get (show ds[j]? = some d from h)
theorem opt_map {α : Type} {x : Option α} {f : α → D × Bool} {q : D × Bool} (h : x.map f = some q) : ∃ a, x = some a ∧ q = f a := by
  cases x with
  | none => cases h
  | some a => exact ⟨a, rfl, (Option.some.inj h).symm⟩
theorem bo_ix : BopL C (rIx C.K) dIx := fun G δ σ H x y v w e Q E rx ry he q => by
  rcases rx with rx | ⟨a, xs, ds, rfl, rfl, h, rl⟩
  · unfold dIx at he
    split at he
    · obtain ⟨d, h1, h2⟩ := opt_map he
      cases h2; cases ry
      cases rx with
      | lst n h r =>
        obtain ⟨u, h3, h4⟩ := r.atI h1
        exact .inl ⟨_, _, _, u, rfl, rfl, SqL.of h, h3, q u h4⟩
    · obtain ⟨d, h1, h2⟩ := opt_map he
      cases h2; cases ry
      cases rx with
      | tup h r =>
        obtain ⟨u, h3, h4⟩ := r.atI h1
        exact .inr (.inl ⟨_, _, _, u, rfl, rfl, h, h3, q u h4⟩)
    · obtain ⟨d, h1, h2⟩ := opt_map he
      cases h2; cases ry
      cases rx with
      | scr h r =>
        obtain ⟨u, h3, h4⟩ := r.atI h1
        exact .inl ⟨_, _, _, u, rfl, rfl, h.sq, h3, q u h4⟩
    · split at he
      · rename_i hz
        obtain ⟨d, h1, h2⟩ := opt_map he
        cases h2; cases ry; cases rx
        exact .inr (.inr ⟨_, _, _, rfl, rfl, by rw [← line_eq]; exact hz, h1, q _ (.str _)⟩)
      · cases he
    · cases he
  · cases w <;> first | cases he | skip
    obtain ⟨d, h1, h2⟩ := opt_map he
    cases h2; cases ry
    obtain ⟨u, h3, h4⟩ := rl.atI h1
    exact .inl ⟨_, _, _, u, rfl, rfl, SqL.of h, h3, q u h4⟩
theorem BopL.od {r : R2} {f : DOp} (h : BopL C r f) (hf : ∀ v w p, f v w = some p → p.2 = false) : OpD C r f := fun G δ σ H x y v w p Q E rx ry he q => by
  obtain ⟨e, fr⟩ := p
  have z : fr = false := hf v w _ he
  subst z
  exact h G δ σ H x y v w e Q E (.inl rx) ry he fun u ru => q u H E Ext.refl ru fun z => nomatch z
theorem map_fr {α : Type} {x : Option α} {f : α → D} {p : D × Bool} (h : x.map (fun a => (f a, false)) = some p) : p.2 = false := by
  obtain ⟨a, _, rfl⟩ := opt_map h
  rfl
theorem dIx_fr (v w : D) (p : D × Bool) (h : dIx v w = some p) : p.2 = false := by
  unfold dIx at h
  split at h
  · exact map_fr h
  · exact map_fr h
  · exact map_fr h
  · split at h
    · exact map_fr (f := fun c => .str ⟨#[c]⟩) h
    · cases h
  · cases h
theorem od_ix : OpD C (rIx C.K) dIx := bo_ix.od dIx_fr
theorem pd_ix (ha : PE X a (tD C W G ga)) (hb : PE X b (tD C W G gb)) (hs : PlainIx b := by exact fun _ _ => rfl) (hK : X.K = C.K := by rfl) : PE X (.Subscript a b pos) (tD C W G (gBin dIx ga gb)) :=
  PE.imp (pe_ix (r := rIx C.K) (hK ▸ ix_seq) ha hb hs) (tD_op od_ix)
theorem pd_ixV {i : Nat} (ha : PE X a (tVar i)) (hb : PE X b (tD C W G gb)) (hs : PlainIx b := by exact fun _ _ => rfl) (hK : X.K = C.K := by rfl) : PE X (.Subscript a b pos) (tD C W G (gSlotBin dIx i gb)) :=
  PE.imp (pe_ix (r := rIx C.K) (hK ▸ ix_seq) ha hb hs) (tD_slotBin bo_ix)

theorem flat_of {W : Addr → Prop} {v : V} {d : D} (r : Rep C W H v d) (h : flatD d = true) : flatV v = true := by
  cases r <;> first | rfl | (exact absurd h (by simp [flatD]))
theorem flats_of {W : Addr → Prop} : ∀ {vs : List V} {ds : List D}, RepL C W H vs ds → ds.all flatD = true → vs.all flatV = true
  | _, _, .nil, _ => rfl
  | _, _, .cons r t, h => by
    rw [List.all_cons, Bool.and_eq_true] at h ⊢
    exact ⟨flat_of r h.1, flats_of t h.2⟩
theorem eqV_of {W : Addr → Prop} {v w : V} {d e : D} (r : Rep C W H v d) (s : Rep C W H w e) (h : flatD d = true) (h' : flatD e = true) : eqV v w = PyData.eqv d e := by
  cases r <;> first | (simp [flatD] at h; done) | skip
  all_goals (cases s <;> first | (simp [flatD] at h'; done) | skip)
  all_goals first
    | rfl
    | simp [eqV, PyData.eqv]
theorem inV_of {W : Addr → Prop} {v : V} {d : D} (r : Rep C W H v d) (h : flatD d = true) : ∀ {vs : List V} {ds : List D}, RepL C W H vs ds → ds.all flatD = true → inV v vs = inD d ds
  | _, _, .nil, _ => rfl
  | _, _, .cons q t, z => by
    rw [List.all_cons, Bool.and_eq_true] at z
    have ih := inV_of r h t z.2
    unfold inV inD at ih ⊢
    rw [List.any_cons, List.any_cons, ih, eqV_of q r z.1 h]
/-- in a tuple of tuples -/
def rInT (K : PySem.W.Frag) : R2 := fun x y H Q => ∃ d ds, Dp K H x d ∧ Dp K H y (.tuple ds) ∧ SeqAt.shaped d = true ∧ SeqAt.shaped (.tuple ds) = true ∧ Q (.bl (ds.any fun z => PyData.eqv z d)) H
def rNotInT (K : PySem.W.Frag) : R2 := fun x y H Q => ∃ d ds, Dp K H x d ∧ Dp K H y (.tuple ds) ∧ SeqAt.shaped d = true ∧ SeqAt.shaped (.tuple ds) = true ∧ Q (.bl (!ds.any fun z => PyData.eqv z d)) H
theorem op_inT (hu : X.A.units + 65 < cLine) : OpR X (compareOp .In) (rInT X.K) := by
  intro pins s σ H x y v u Q I rx ry h
  obtain ⟨d, ds, hd, he, sd, se, q⟩ := h
  obtain ⟨as, r1⟩ := Dp.reads I d x v hd rx
  obtain ⟨bs, r2⟩ := Dp.reads I (.tuple ds) y u he ry
  exact SeqAt.in_tuple_reads r2 r1 (SeqAt.canLay_of_shaped se) (SeqAt.canLay_of_shaped sd) (room_in_shaped sd hu) ⟨.bl _, H, I, rfl, q⟩
theorem op_notInT (hu : X.A.units + 65 < cLine) : OpR X (compareOp .NotIn) (rNotInT X.K) := by
  intro pins s σ H x y v u Q I rx ry h
  obtain ⟨d, ds, hd, he, sd, se, q⟩ := h
  obtain ⟨as, r1⟩ := Dp.reads I d x v hd rx
  obtain ⟨bs, r2⟩ := Dp.reads I (.tuple ds) y u he ry
  exact SeqAt.notIn_tuple_reads r2 r1 (SeqAt.canLay_of_shaped se) (SeqAt.canLay_of_shaped sd) (room_in_shaped sd hu) ⟨.bl _, H, I, rfl, q⟩
def rInA (K : PySem.W.Frag) : R2 := fun x y H Q => rIn K false x y H Q ∨ (rInD K x y H Q ∨ (rInT K x y H Q ∨ ∃ i j, x = .str i ∧ y = .str j ∧ Q (.bl (!(Builtin.Str.occurrences j i 0 j.length 1).isEmpty)) H))
theorem op_inA (hu : X.A.units + 65 < cLine) : OpR X (compareOp .In) (rInA X.K) := OpR.or op_in_seq (OpR.or (op_inD hu) (OpR.or (op_inT hu) op_in_str))
def rNotInA (K : PySem.W.Frag) : R2 := fun x y H Q => rIn K true x y H Q ∨ (rNotInD K x y H Q ∨ (rNotInT K x y H Q ∨ ∃ i j, x = .str i ∧ y = .str j ∧ Q (.bl (!(!(Builtin.Str.occurrences j i 0 j.length 1).isEmpty))) H))
theorem op_notInA (hu : X.A.units + 65 < cLine) : OpR X (compareOp .NotIn) (rNotInA X.K) := OpR.or op_notIn_seq (OpR.or (op_notInD hu) (OpR.or (op_notInT hu) op_notin_str))
theorem Bor.lst {W : Addr → Prop} {y : V} {ds : List D} (h : Bor C W H y (.list ds)) : ∃ a xs, y = .ref a ∧ H a = some (.lst xs) ∧ RepL C W H xs ds := by
  rcases h with h | ⟨a, xs, es, rfl, e, h, r⟩
  · cases h with
    | lst _ h r => exact ⟨_, _, rfl, h, r⟩
  · cases e
    exact ⟨a, xs, rfl, h, r⟩
theorem Bor.dps {W : Addr → Prop} {y : V} {d : D} (h : Bor C W H y d) (z : SeqAt.shaped d = true) : Dp C.K H y d := by
  rcases h with h | ⟨a, xs, es, rfl, rfl, h, r⟩
  · exact h.dps z
  · exact .lst (SqL.of h) (RepL.dp r (by have := SeqAt.canLay_of_shaped z; simpa [PyData.canLay0] using this))
theorem bo_in : BopR C (rInA C.K) dIn := fun G δ σ H x y v w e Q E rx ry he q => by
  unfold dIn at he
  split at he
  · obtain ⟨a, xs, rfl, h, rl⟩ := ry.lst
    split at he
    · rename_i c
      rw [Bool.and_eq_true] at c
      cases he
      exact .inl ⟨_, _, rfl, .inl (SqL.of h), flat_of rx c.1, flats_of rl c.2, by rw [inV_of rx c.1 rl c.2]; exact q _ (.bl _)⟩
    · split at he
      · rename_i c
        rw [Bool.and_eq_true] at c
        cases he
        exact .inr (.inl ⟨v, _, rx.dps c.1, ry.dps c.2, c.1, c.2, q _ (.bl _)⟩)
      · cases he
  · split at he
    · rename_i c
      rw [Bool.and_eq_true] at c
      cases he
      rcases ry with ry | ⟨_, _, _, _, z, _⟩
      · cases ry with
        | tup h r => exact .inl ⟨_, _, rfl, .inr h, flat_of rx c.1, flats_of r c.2, by rw [inV_of rx c.1 r c.2]; exact q _ (.bl _)⟩
      · cases z
    · split at he
      · rename_i c
        rw [Bool.and_eq_true] at c
        cases he
        exact .inr (.inr (.inl ⟨v, _, rx.dps c.1, ry.dps c.2, c.1, c.2, q _ (.bl _)⟩))
      · cases he
  · cases he
    rcases ry with ry | ⟨_, _, _, _, z, _⟩
    · cases ry; cases rx
      exact .inr (.inr (.inr ⟨_, _, rfl, rfl, q _ (.bl _)⟩))
    · cases z
  · cases he
theorem bo_notIn : BopR C (rNotInA C.K) dNotIn := fun G δ σ H x y v w e Q E rx ry he q => by
  unfold dNotIn at he
  split at he
  · obtain ⟨a, xs, rfl, h, rl⟩ := ry.lst
    split at he
    · rename_i c
      rw [Bool.and_eq_true] at c
      cases he
      exact .inl ⟨_, _, rfl, .inl (SqL.of h), flat_of rx c.1, flats_of rl c.2, by rw [inV_of rx c.1 rl c.2]; exact q _ (.bl _)⟩
    · split at he
      · rename_i c
        rw [Bool.and_eq_true] at c
        cases he
        exact .inr (.inl ⟨v, _, rx.dps c.1, ry.dps c.2, c.1, c.2, q _ (.bl _)⟩)
      · cases he
  · split at he
    · rename_i c
      rw [Bool.and_eq_true] at c
      cases he
      rcases ry with ry | ⟨_, _, _, _, z, _⟩
      · cases ry with
        | tup h r => exact .inl ⟨_, _, rfl, .inr h, flat_of rx c.1, flats_of r c.2, by rw [inV_of rx c.1 r c.2]; exact q _ (.bl _)⟩
      · cases z
    · split at he
      · rename_i c
        rw [Bool.and_eq_true] at c
        cases he
        exact .inr (.inr (.inl ⟨v, _, rx.dps c.1, ry.dps c.2, c.1, c.2, q _ (.bl _)⟩))
      · cases he
  · cases he
    rcases ry with ry | ⟨_, _, _, _, z, _⟩
    · cases ry; cases rx
      exact .inr (.inr (.inr ⟨_, _, rfl, rfl, q _ (.bl _)⟩))
    · cases z
  · cases he
theorem BopR.od {r : R2} {f : DOp} (h : BopR C r f) (hf : ∀ v w p, f v w = some p → p.2 = false) : OpD C r f := fun G δ σ H x y v w p Q E rx ry he q => by
  obtain ⟨e, fr⟩ := p
  have z : fr = false := hf v w _ he
  subst z
  exact h G δ σ H x y v w e Q E rx (.inl ry) he fun u ru => q u H E Ext.refl ru fun z => nomatch z
theorem dIn_fr (v w : D) (p : D × Bool) (h : dIn v w = some p) : p.2 = false := by
  unfold dIn at h
  split at h
  · split at h
    · cases h; rfl
    · split at h
      · cases h; rfl
      · cases h
  · split at h
    · cases h; rfl
    · split at h
      · cases h; rfl
      · cases h
  · cases h; rfl
  · cases h
theorem dNotIn_fr (v w : D) (p : D × Bool) (h : dNotIn v w = some p) : p.2 = false := by
  unfold dNotIn at h
  split at h
  · split at h
    · cases h; rfl
    · split at h
      · cases h; rfl
      · cases h
  · split at h
    · cases h; rfl
    · split at h
      · cases h; rfl
      · cases h
  · cases h; rfl
  · cases h
theorem od_in : OpD C (rInA C.K) dIn := bo_in.od dIn_fr
theorem od_notIn : OpD C (rNotInA C.K) dNotIn := bo_notIn.od dNotIn_fr
theorem pd_cmpSlot {op : CmpOp} {r : R2} {f : DOp} {i : Nat} (ho : OpR X (compareOp op) r) (od : BopR C r f) (ha : PE X a (tD C W G ga)) (hb : PE X b (tVar i)) (hm : behindInMarks op b = false) : PE X (.Compare a [op] [b] pos) (tD C W G (gBinSlot f ga i)) :=
  PE.imp (pe_cmpR ho ha hb hm) (tD_binSlot od)
theorem ptd_cmpSlot {op : CmpOp} {r : R2} {f : DOp} {i : Nat} (ho : OpR X (compareOp op) r) (od : BopR C r f) (ha : PE X a (tD C W G ga)) (hb : PE X b (tVar i)) (hm : behindInMarks op b = false) : PT X (.Compare a [op] [b] pos) (tT C W G (gTv (gBinSlot f ga i))) :=
  PT.imp (pt_cmpR ho ha hb hm) fun σ H Q h => tD_binSlot od σ H _ (tD_tv σ H Q h)

def gNoPart : Sl → R Sl (Option Int) := fun δ => .ok none δ
def gPart (ga : Sl → EV) : Sl → R Sl (Option Int) := fun δ => (ga δ).bind fun x δ1 => match x.1 with
  | .int i => .ok (some i) δ1
  | _ => .stk
def cutD (xs : List D) (lo hi : Option Int) : List D := (xs.drop (HT.sIx xs.length 0 lo)).take (HT.sIx xs.length xs.length hi - HT.sIx xs.length 0 lo)
def dSlice (x : D) (lo hi : Option Int) : Option (D × Bool) := match x with
  | .list xs => some (.list (cutD xs lo hi), true)
  | .dict [(.bool true, .list xs)] => if xs.length ≤ LINE then some (.list (cutD xs lo hi), true) else none
  | .str z => if z.length ≤ LINE then some (.str (cutS z lo hi), false) else none
  | _ => none
def gSlice (ga : Sl → EV) (gl gh : Sl → R Sl (Option Int)) : Sl → EV := fun δ => (ga δ).bind fun x δ1 => (gl δ1).bind fun l δ2 => (gh δ2).bind fun h δ3 => fin (dSlice x.1 l h) δ3
def tO (C : Ct) (W : WX) (G : Gh) (g : Sl → R Sl (Option Int)) : TO := fun σ H Q => ∃ δ, ERel C G δ σ H ∧ Post C W G δ σ H (fun o _ H' => Q o H') (g δ)
theorem PO.imp {e : Option Expr} {t t' : TO} (h : PO X e t) (hi : ∀ σ H Q, t' σ H Q → t σ H Q) : PO X e t' := ⟨fun pins s σ H Q I q => h.run pins s σ H Q I (hi σ H Q q)⟩
theorem pod_none : PO X none (tO C W G gNoPart) := PO.imp po_none fun σ H Q ⟨δ, E, p⟩ => p H E Ext.refl
theorem pod_some (ha : PE X a (tD C W G ga)) : PO X (some a) (tO C W G (gPart ga)) := PO.imp (po_some ha) fun σ H Q ⟨δ, E, p⟩ =>
  ⟨δ, E, (Post.bind p).imp fun x δ1 H1 E1 X1 p1 v rv _ => by
    obtain ⟨d, fr⟩ := x
    cases d <;> first | exact (show False from p1).elim | skip
    cases rv
    exact ⟨_, rfl, p1 H1 E1 Ext.refl⟩⟩
theorem cut_rep {W : Addr → Prop} {xs : List V} {ds : List D} {lo hi : Option Int} (r : RepL C W H xs ds) : RepL C W H (cutV xs lo hi) (cutD ds lo hi) := by
  unfold cutV cutD
  rw [r.length]
  exact (r.drop _).take _
def rSlA (K : PySem.W.Frag) : V → Option Int → Option Int → Hp → VK → Prop := fun x lo hi H Q => rSlL K x lo hi H Q ∨ rSlS x lo hi H Q
theorem sl_A : SlR X (rSlA X.K) := SlR.or sl_list sl_str
theorem pd_slice {lo hi : Option Expr} {p2 : Pos} {gl gh : Sl → R Sl (Option Int)} (ha : PE X a (tD C W G ga)) (hl : PO X lo (tO C W G gl)) (hh : PO X hi (tO C W G gh)) (hK : X.K = C.K := by rfl) : PE X (.Subscript a (.Slice lo hi none p2) pos) (tD C W G (gSlice ga gl gh)) :=
  PE.imp (pe_slice (r := rSlA C.K) (hK ▸ sl_A) ha hl hh) fun σ H Q ⟨δ, E, p⟩ => ⟨δ, E, (Post.bind p).imp fun x δ1 H1 E1 X1 p1 v rv _ => ⟨δ1, E1, (Post.bind p1).imp fun l δ2 H2 E2 X2 p2 => ⟨δ2, E2, (Post.bind p2).imp fun h δ3 H3 E3 X3 p3 => by
    obtain ⟨q, e, p4⟩ := fin_ok (p3.at ((X1.trans X2).trans X3))
    have rv3 := X3.rep (X2.rep rv)
    have k := fun u H' E' X' r' f' => p4 H' E' X' u r' f'
    obtain ⟨d, fr⟩ := x
    unfold dSlice at e
    split at e
    · rename_i ds hd
      cases hd
      cases e
      cases rv3 with
      | lst n hh r => exact .inl ⟨_, _, rfl, SqL.of hh, fun q hq => newl E3 k (cut_rep r) (Nat.le_trans (cutV_length _ _ _) (E3.sz _ _ hh)) hq⟩
    · rename_i ds hd
      cases hd
      split at e
      · rename_i hz
        cases e
        cases rv3 with
        | scr hh r => exact .inl ⟨_, _, rfl, hh.sq, fun q hq => newl E3 k (cut_rep r) (Nat.le_trans (cutV_length _ _ _) (by rw [← line_eq, r.length]; exact hz)) hq⟩
      · cases e
    · rename_i z hd
      cases hd
      split at e
      · rename_i hz
        cases e
        cases rv3
        exact .inr ⟨_, rfl, by rw [← line_eq]; exact hz, atom E3 k (.str _)⟩
      · cases e
    · cases e⟩⟩⟩

def dLen : List D → Option (D × Bool)
  | [.list xs] => some (.int xs.length, false)
  | [.tuple xs] => some (.int xs.length, false)
  | [.dict [(.bool true, .list xs)]] => some (.int xs.length, false)
  | [.str z] => if z.length ≤ LINE then some (.int z.length, false) else none
  | _ => none
theorem RepL.one_inv {W : Addr → Prop} {xs : List V} {d : D} (h : RepL C W H xs [d]) : ∃ v, xs = [v] ∧ Rep C W H v d := by
  cases h with
  | cons r t => cases t; exact ⟨_, rfl, r⟩
theorem RepL.two_inv {W : Addr → Prop} {xs : List V} {d e : D} (h : RepL C W H xs [d, e]) : ∃ v w, xs = [v, w] ∧ Rep C W H v d ∧ Rep C W H w e := by
  cases h with
  | cons r t =>
    obtain ⟨w, rfl, r'⟩ := t.one_inv
    exact ⟨_, w, rfl, r, r'⟩
theorem len_bor {W : Addr → Prop} {v d e : D} {x : V} (h : Bor C W H x v) (he : dLen [v] = some (e, false)) : ∃ n : Nat, LenV C.K x H n ∧ e = .int n := by
  rcases h with rx | ⟨a, xs, ds, rfl, rfl, h, rl⟩
  · unfold dLen at he
    split at he
    · rename_i xs q
      cases q; cases he
      cases rx with
      | lst n h r => exact ⟨_, .inl ⟨_, SqL.of h, rfl⟩, by rw [r.length]⟩
    · rename_i xs q
      cases q; cases he
      cases rx with
      | tup h r => exact ⟨_, .inr ⟨_, h, rfl⟩, by rw [r.length]⟩
    · rename_i xs q
      cases q; cases he
      cases rx with
      | scr h r => exact ⟨_, .inl ⟨_, h.sq, rfl⟩, by rw [r.length]⟩
    · rename_i z q
      cases q
      split at he
      · rename_i hz
        cases he; cases rx
        exact ⟨_, ⟨by rw [← line_eq]; exact hz, rfl⟩, rfl⟩
      · cases he
    · cases he
  · cases he
    exact ⟨_, .inl ⟨_, SqL.of h, rfl⟩, by rw [rl.length]⟩
theorem dLen_fr {v : D} {p : D × Bool} (h : dLen [v] = some p) : p.2 = false := by
  unfold dLen at h
  split at h
  · cases h; rfl
  · cases h; rfl
  · cases h; rfl
  · split at h
    · cases h; rfl
    · cases h
  · cases h
theorem cd_len : CallD C (fun xs H Q => ∃ x n, xs = [x] ∧ LenV C.K x H n ∧ Q (.int n) H) dLen := fun G δ σ H xs ds p Q E r e q => by
  match ds with
  | [d] =>
    obtain ⟨v, rfl, rv⟩ := r.one_inv
    obtain ⟨d', fr⟩ := p
    cases (show fr = false from dLen_fr e)
    obtain ⟨n, h1, rfl⟩ := len_bor (d := d) (.inl rv) e
    exact ⟨v, n, rfl, h1, atom E q (.int _)⟩
  | [] => cases e
  | _ :: _ :: _ => simp [dLen] at e
/-- len(name) -/
def gLenV (i : Nat) : Sl → EV := fun δ => match slotD i δ with
  | some d => match dLen [d] with
    | some (e, false) => .ok (e, false) δ
    | _ => .stk
  | none => .stk
theorem pd_lenV {i : Nat} {p : Pos} (hc : CallR X (.builtin "len") (fun xs H Q => ∃ x n, xs = [x] ∧ LenV C.K x H n ∧ Q (.int n) H)) (hg : Gl X "len") (hm : X.mg "len" = none) (ha : PE X e (tVar i))
    (he : starEach (e :: []) X.env = (false, eval e X.env) :: starEach [] X.env := by rfl) : PE X (.Call (.Name "len" p) [e] [] pos) (tD C W G (gLenV i)) :=
  PE.imp (pe_callB hc hg hm boot_len (pa_cons ha pa_nil he) (by decide) (by decide) he rfl) fun σ H Q ⟨δ, E, p⟩ => by
    unfold gLenV at p
    split at p
    · rename_i d hd
      obtain ⟨v, hv, rb⟩ := E.slot hd
      split at p
      · rename_i e' he'
        obtain ⟨n, h1, rfl⟩ := len_bor (d := d) rb he'
        exact ⟨v, hv, v, n, rfl, h1, now E p _ (.int _) fun z => nomatch z⟩
      · exact p.elim
    · exact p.elim
def dInt : List D → Option (D × Bool)
  | [.int i] => some (.int i, false)
  | [.bool k] => some (.int (if k then 1 else 0), false)
  | _ => none
theorem cd_int : CallD C (fun xs H Q => (∃ i, xs = [.int i] ∧ Q (.int i) H) ∨ ∃ k, xs = [.bl k] ∧ Q (.int (if k then 1 else 0)) H) dInt := fun G δ σ H xs ds p Q E r e q => by
  unfold dInt at e
  split at e
  · cases e
    obtain ⟨v, rfl, rv⟩ := r.one_inv
    cases rv
    exact .inl ⟨_, rfl, atom E q (.int _)⟩
  · cases e
    obtain ⟨v, rfl, rv⟩ := r.one_inv
    cases rv
    exact .inr ⟨_, rfl, atom E q (.int _)⟩
  · cases e
def dMax2 : List D → Option (D × Bool)
  | [.int i, .int j] => some (.int (if j > i then j else i), false)
  | _ => none
def dMin2 : List D → Option (D × Bool)
  | [.int i, .int j] => some (.int (if j < i then j else i), false)
  | _ => none
def dAbs : List D → Option (D × Bool)
  | [.int i] => some (.int (if i < 0 then -i else i), false)
  | _ => none
theorem cd_max2 : CallD C (fun xs H Q => ∃ i j, xs = [.int i, .int j] ∧ Q (.int (if j > i then j else i)) H) dMax2 := fun G δ σ H xs ds p Q E r e q => by
  unfold dMax2 at e
  split at e
  · cases e
    obtain ⟨v, w, rfl, rv, rw⟩ := r.two_inv
    cases rv; cases rw
    exact ⟨_, _, rfl, atom E q (.int _)⟩
  · cases e
theorem cd_min2 : CallD C (fun xs H Q => ∃ i j, xs = [.int i, .int j] ∧ Q (.int (if j < i then j else i)) H) dMin2 := fun G δ σ H xs ds p Q E r e q => by
  unfold dMin2 at e
  split at e
  · cases e
    obtain ⟨v, w, rfl, rv, rw⟩ := r.two_inv
    cases rv; cases rw
    exact ⟨_, _, rfl, atom E q (.int _)⟩
  · cases e
theorem cd_abs : CallD C (fun xs H Q => ∃ i, xs = [.int i] ∧ Q (.int (if i < 0 then -i else i)) H) dAbs := fun G δ σ H xs ds p Q E r e q => by
  unfold dAbs at e
  split at e
  · cases e
    obtain ⟨v, rfl, rv⟩ := r.one_inv
    cases rv
    exact ⟨_, rfl, atom E q (.int _)⟩
  · cases e
def intsD : List D → Option (List Int)
  | [] => some []
  | .int i :: r => (intsD r).map (i :: ·)
  | _ :: _ => none
theorem ints_of {W : Addr → Prop} : ∀ {vs : List V} {ds : List D} {ns : List Int}, RepL C W H vs ds → intsD ds = some ns → vs = ns.map V.int
  | _, _, _, .nil, e => by cases e; rfl
  | _, _, _, .cons r t, e => by
    cases r <;> first | cases e | skip
    rename_i i
    unfold intsD at e
    cases q : intsD _ with
    | none => rw [q] at e; cases e
    | some ms =>
      rw [q] at e
      cases e
      rw [List.map_cons, ints_of t q]
def dSum : List D → Option (D × Bool)
  | [.list xs] => (intsD xs).map fun ns => (.int ns.sum, false)
  | _ => none
theorem cd_sum : CallD C (rSum C.K) dSum := fun G δ σ H xs ds p Q E r e q => by
  unfold dSum at e
  split at e
  · obtain ⟨v, rfl, rv⟩ := r.one_inv
    obtain ⟨ns, h1, rfl⟩ := opt_map e
    cases rv with
    | lst n h rl =>
      rw [ints_of rl h1] at h
      exact ⟨_, ns, rfl, SqL.of h, atom E q (.int _)⟩
  · cases e
def boolsD : List D → Option (List Bool)
  | [] => some []
  | .bool i :: r => (boolsD r).map (i :: ·)
  | _ :: _ => none
theorem bools_of {W : Addr → Prop} : ∀ {vs : List V} {ds : List D} {ns : List Bool}, RepL C W H vs ds → boolsD ds = some ns → vs = ns.map V.bl
  | _, _, _, .nil, e => by cases e; rfl
  | _, _, _, .cons r t, e => by
    cases r <;> first | cases e | skip
    rename_i i
    unfold boolsD at e
    cases q : boolsD _ with
    | none => rw [q] at e; cases e
    | some ms =>
      rw [q] at e
      cases e
      rw [List.map_cons, bools_of t q]
def dAll : List D → Option (D × Bool)
  | [.list xs] => (boolsD xs).map fun ns => (.bool (ns.all id), false)
  | _ => none
theorem cd_all : CallD C (rAll C.K) dAll := fun G δ σ H xs ds p Q E r e q => by
  unfold dAll at e
  split at e
  · obtain ⟨v, rfl, rv⟩ := r.one_inv
    obtain ⟨ns, h1, rfl⟩ := opt_map e
    cases rv with
    | lst n h rl =>
      rw [bools_of rl h1] at h
      exact ⟨_, ns, rfl, SqL.of h, atom E q (.bl _)⟩
  · cases e
/-- isinstance of a built-in type -/
def tyCode : D → Option Nat
  | .int _ => some 0
  | .bool _ => some 1
  | .str _ => some 2
  | .tuple _ => some 3
  | .list _ => some 4
  | .none => some 6
  | .dict [] => some 7
  | _ => none
def tyNm : List String := ["int", "bool", "str", "tuple", "list", "ValueError", "NoneType", "dict"]
def isTab (a b : Nat) : Bool := a == b || (a == 1 && b == 0)
theorem isTab_ok : ∀ a, a < 8 → ∀ b, b < 5 → ∀ n m, tyNm[a]? = some n → tyNames[b]? = some m → PySem.W.kitOne C.K (.type n) (.type m) = some (isTab a b) := by
  have h : (List.range 8).all (fun a => (List.range 5).all fun b => kitB (tyNm.getD a "") (tyNames.getD b "") == some (isTab a b)) = true := by decide +kernel
  intro a ha b hb n m e1 e2
  have h1 := List.all_eq_true.mp h a (List.mem_range.mpr ha)
  have h2 := List.all_eq_true.mp h1 b (List.mem_range.mpr hb)
  have e3 : tyNm.getD a "" = n := by rw [List.getD_eq_getElem?_getD, e1]; rfl
  have e4 : tyNames.getD b "" = m := by rw [List.getD_eq_getElem?_getD, e2]; rfl
  rw [e3, e4] at h2
  exact kit_ty (by simpa using h2)
theorem ty_of {W : Addr → Prop} {v : V} {d : D} {a : Nat} (r : Rep C W H v d) (h : tyCode d = some a) : a < 8 ∧ ∃ n, tyNm[a]? = some n ∧ TyX C.K H v (.type n) := by
  cases r with
  | non => cases h; exact ⟨by decide, _, rfl, .base .non⟩
  | bl b => cases h; exact ⟨by decide, _, rfl, .base (.bl b)⟩
  | int b => cases h; exact ⟨by decide, _, rfl, .base (.int b)⟩
  | str b => cases h; exact ⟨by decide, _, rfl, .base (.str b)⟩
  | lst n h1 _ => cases h; exact ⟨by decide, _, rfl, .base (.lst h1)⟩
  | tup h1 _ =>
    cases h
    refine ⟨by decide, _, rfl, ?_⟩
    rcases h1 with (h1 | ⟨o, h1⟩) | ⟨o, its, n, h1, h2, _⟩
    · exact .base (.tup h1)
    · exact .fTuple h1
    · exact .kTuple h1 h2
  | dct _ h1 => cases h; exact ⟨by decide, _, rfl, .base (.dK h1)⟩
  | scr _ _ => cases h
  | tyb _ => cases h
  | tyo => cases h
  | dki _ _ => cases h
  | exc0 _ => cases h
  | exc1 _ _ _ => cases h
theorem ty_inv {W : Addr → Prop} {w : V} {d : D} (h : Rep C W H w d) : ∀ k : Int, d = .dict [(.bool false, .int k)] → k < 0 → ∃ nn kk, w = .ty nn ∧ tyNames[kk]? = some nn ∧ k = -((kk : Nat) : Int) - 1 := by
  cases h <;> intro k e hk <;> first
    | (cases e; done)
    | (cases e; exact ⟨_, _, rfl, by assumption, rfl⟩)
    | (cases e; exact absurd hk (by omega))
def dIsi : List D → Option (D × Bool)
  | [d, .dict [(.bool false, .int k)]] => if k < 0 ∧ -6 < k then (tyCode d).map fun a => (.bool (isTab a (-k - 1).toNat), false) else none
  | _ => none
theorem cd_isi : CallD C (rIsi C.K) dIsi := fun G δ σ H xs ds p Q E r e q => by
  unfold dIsi at e
  split at e
  · rename_i d k
    split at e
    · rename_i hk
      obtain ⟨a, h1, rfl⟩ := opt_map e
      obtain ⟨v, w, rfl, rv, rw⟩ := r.two_inv
      obtain ⟨ha, n, e1, ty⟩ := ty_of rv h1
      obtain ⟨nn, kk, rfl, hn, hz⟩ := ty_inv rw k rfl hk.1
      have hb : (-k - 1).toNat = kk := by omega
      refine ⟨v, .ty nn, _, _, isTab a kk, rfl, .ty nn, ty, isTab_ok a ha kk (by omega) n nn e1 hn, ?_⟩
      rw [hb] at q
      exact atom E q (.bl _)
    · cases e
  · cases e
/-- str of an int -/
def dStr : List D → Option (D × Bool)
  | [.int i] => if i.natAbs.log2 < 1920 then some (.str (toString i), false) else none
  | _ => none
theorem cd_str : CallD C (fun xs H Q => ∃ i, xs = [.int i] ∧ i.natAbs.log2 < 1920 ∧ Q (.str (toString i)) H) dStr := fun G δ σ H xs ds p Q E r e q => by
  unfold dStr at e
  split at e
  · split at e
    · rename_i h
      cases e
      obtain ⟨v, rfl, rv⟩ := r.one_inv
      cases rv
      exact ⟨_, rfl, h, atom E q (.str _)⟩
    · cases e
  · cases e
/-- list(range(a, b)) -/
def rgD (a b : Int) : List D := (List.range (b - a).toNat).map fun i => .int (a + (i : Nat))
theorem rg_rep {W : Addr → Prop} (a b : Int) : RepL C W H (rgV a b) (rgD a b) := by
  unfold rgV rgD
  generalize (List.range (b - a).toNat) = l
  induction l with
  | nil => exact .nil
  | cons i l ih => exact .cons (.int _) ih
def rgOk (a b : Int) : Bool := decide (-1000000000000 ≤ a) && decide (a ≤ 1000000000000) && decide (-1000000000000 ≤ b) && decide (b ≤ 1000000000000) && decide (b - a ≤ 16777216)
theorem rgOk_ok {a b : Int} (h : rgOk a b = true) : RgOk a b := by
  unfold rgOk at h
  simp only [Bool.and_eq_true, decide_eq_true_eq] at h
  obtain ⟨⟨⟨⟨h1, h2⟩, h3⟩, h4⟩, h5⟩ := h
  exact ⟨by omega, by omega, by omega, by omega, by omega⟩
def gLstRg (ga : Sl → EV) (gb : Sl → EV) : Sl → EV := fun δ => (ga δ).bind fun x δ1 => (gb δ1).bind fun y δ2 => match x.1, y.1 with
  | .int i, .int j => if rgOk i j then .ok (.list (rgD i j), true) δ2 else .stk
  | _, _ => .stk
theorem pd_listRg2 {p pos p' pos' : Pos} (hc : X.calm = true) (hg : Gl X "list") (hm : X.mg "list" = none) (hg' : Gl X "range") (hm' : X.mg "range" = none) (ha : PE X a (tD C W G ga)) (hb : PE X b (tD C W G gb))
    (na : starEach [a, b] X.env = (false, eval a X.env) :: starEach [b] X.env := by rfl) (nb : starEach [b] X.env = (false, eval b X.env) :: starEach [] X.env := by rfl) (hp : (backTo pos' (starEach [b] X.env)).any (·.1) = false := by rfl)
    (nc : starEach [.Call (.Name "range" p') [a, b] [] pos'] X.env = (false, eval (.Call (.Name "range" p') [a, b] [] pos') X.env) :: starEach [] X.env := by rfl) :
    PE X (.Call (.Name "list" p) [.Call (.Name "range" p') [a, b] [] pos'] [] pos) (tD C W G (gLstRg ga gb)) :=
  PE.imp (pe_listRg hc hg hm (prg_2 hg' hm' ha hb na nb hp) nc) fun σ H Q ⟨δ, E, p⟩ => ⟨δ, E, (Post.bind p).imp fun x δ1 H1 E1 X1 p1 v rv fv => ⟨δ1, E1, (Post.bind p1).imp fun y δ2 H2 E2 X2 p2 w rw fw => by
    obtain ⟨x, fx⟩ := x
    obtain ⟨y, fy⟩ := y
    clear fw fv
    cases x <;> first | exact (show False from p2).elim | skip
    cases y <;> first | exact (show False from p2).elim | skip
    rename_i i j
    cases rv; cases rw
    have p3 : Post C W G δ2 σ H2 (kE C G δ2 σ H2 Q) (if rgOk i j then .ok (.list (rgD i j), true) δ2 else .stk) := p2.at (X1.trans X2)
    split at p3
    · rename_i hr
      have ok := rgOk_ok hr
      exact ⟨i, j, rfl, rfl, ok, fun q hq => newl E2 (fun u H' E' X' r' f' => p3 H' E' X' u r' f') (rg_rep i j) (by rw [rgV_length, sizeLine_eq]; have := ok.2.2.2.2; omega) hq⟩
    · exact p3.elim⟩⟩
end
end DL

namespace DL
open PySem PySem.Spec L2
open PyProof.Rows hiding St

/-- the iterator J gives the items ds while P holds, and P lasts -/
structure SrcOk (C : Ct) (J : It) (ds : List D) (P : (Addr → Prop) → Hp → Prop) : Prop where
  mv : ∀ (W W' O : Addr → Prop) (H H' : Hp), P W H → Kept O H H' → (∀ a, O a → W a) → (∀ a, W' a → W a ∨ H a = none) → P W' H'
  go : ∀ (W : Addr → Prop) (H : Hp) (i : Nat) (d : D), P W H → ds[i]? = some d → J.go i H ∧ ∀ x H', J.yld i H x H' → (H' = H ∨ ∃ p xs, H p = none ∧ H' = upd H p (.tup xs)) ∧ Rep C W H' x d
  stop : ∀ (W : Addr → Prop) (H : Hp) (i : Nat), P W H → ds.length ≤ i → J.stop i H
def kI (C : Ct) (G : Gh) (σ : St) (R : It → Hp → Prop) : List D → Sl → Hp → Prop := fun ds δ' H' => ∀ J P, SrcOk C J ds P → P (WW G δ' σ) H' → R J H'
def tI (C : Ct) (W : WX) (G : Gh) (g : Sl → R Sl (List D)) : TI := fun σ H R => ∃ δ, ERel C G δ σ H ∧ Post C W G δ σ H (kI C G σ R) (g δ)
theorem PI.imp {X : Cx} {tg e : Expr} {t t' : TI} (h : PI X tg e t) (hi : ∀ σ H Q, t' σ H Q → t σ H Q) : PI X tg e t' := ⟨fun pins s σ H Q I q => h.run pins s σ H Q I (hi σ H Q q)⟩
def enumD : Nat → List D → List D
  | _, [] => []
  | k, d :: r => .tuple [.int (k : Nat), d] :: enumD (k + 1) r
def zipD : List D → List D → List D
  | d :: r, e :: s => .tuple [d, e] :: zipD r s
  | _, _ => []
theorem enumD_get : ∀ (ds : List D) (k i : Nat), (enumD k ds)[i]? = ds[i]?.map fun d => .tuple [.int ((k + i : Nat) : Int), d]
  | [], _, _ => rfl
  | d :: r, k, 0 => rfl
  | d :: r, k, i + 1 => by
    show (enumD (k + 1) r)[i]? = _
    rw [enumD_get r (k + 1) i, show k + 1 + i = k + (i + 1) by omega]
    rfl
theorem enumD_len : ∀ (ds : List D) (k : Nat), (enumD k ds).length = ds.length
  | [], _ => rfl
  | d :: r, k => by simp [enumD, enumD_len r]
theorem zipD_get : ∀ (ds es : List D) (i : Nat) (z : D), (zipD ds es)[i]? = some z → ∃ d e, ds[i]? = some d ∧ es[i]? = some e ∧ z = .tuple [d, e]
  | [], _, _, _, h => by simp [zipD] at h
  | _ :: _, [], _, _, h => by simp [zipD] at h
  | d :: r, e :: s, 0, z, h => ⟨d, e, rfl, rfl, (Option.some.inj h).symm⟩
  | d :: r, e :: s, i + 1, z, h => zipD_get r s i z h
theorem zipD_len : ∀ (ds es : List D) (i : Nat), (zipD ds es).length ≤ i → ds.length ≤ i ∨ es.length ≤ i
  | [], _, _, _ => .inl (Nat.zero_le _)
  | _ :: _, [], _, _ => .inr (Nat.zero_le _)
  | d :: r, e :: s, 0, h => by simp [zipD] at h
  | d :: r, e :: s, i + 1, h => by
    have h' : (zipD r s).length ≤ i := by simpa [zipD] using h
    rcases zipD_len r s i h' with q | q
    · exact .inl (by simpa using q)
    · exact .inr (by simpa using q)

section
variable {C : Ct} {W : WX} {G : Gh} {δ δ1 : Sl} {σ : St} {H H1 : Hp} {X : Cx} {tg a b c e : Expr} {es : List Expr} {ga gb gc : Sl → EV} {gr : Sl → R Sl (List D)} {pos : Pos}
/-- a list that is read: its place is no slot's own, or it is the script -/
def LstAt (C : Ct) (a : Addr) (xs : List V) (ds : List D) (W : Addr → Prop) (H : Hp) : Prop := ((¬ W a ∧ H a = some (.lst xs)) ∨ ScrAt C.K H a xs) ∧ RepL C W H xs ds
theorem LstAt.sq {a : Addr} {xs : List V} {ds : List D} {W : Addr → Prop} (h : LstAt C a xs ds W H) : SqL C.K H a xs := by
  rcases h.1 with h | h
  · exact SqL.of h.2
  · exact h.sq
theorem LstAt.mv {a : Addr} {xs : List V} {ds : List D} {W W' O : Addr → Prop} {H H' : Hp} (h : LstAt C a xs ds W H) (k : Kept O H H') (ho : ∀ a, O a → W a) (hw : ∀ a, W' a → W a ∨ H a = none) : LstAt C a xs ds W' H' := by
  refine ⟨?_, h.2.move k ho hw⟩
  rcases h.1 with h | h
  · exact .inl ⟨fun z => (hw a z).elim h.1 (fun q => by rw [h.2] at q; cases q), k _ _ h.2 fun z => absurd (ho a z) h.1⟩
  · exact .inr (k.scr h)
theorem src_list {a : Addr} {xs : List V} {ds : List D} : SrcOk C (Itl C.K a) ds (LstAt C a xs ds) where
  mv := fun W W' O H H' p k ho hw => p.mv k ho hw
  go := fun W H i d p e => by
    obtain ⟨v, h1, h2⟩ := p.2.get e
    exact ⟨⟨xs, v, p.sq, h1⟩, fun x H' ⟨hH, hy⟩ => by
      subst hH
      refine ⟨.inl rfl, ?_⟩
      have q := hy xs p.sq
      rw [h1] at q; cases q
      exact h2⟩
  stop := fun W H i p h => ⟨xs, p.sq, by rw [p.2.length]; exact h⟩
def TupAt (C : Ct) (a : Addr) (xs : List V) (ds : List D) (W : Addr → Prop) (H : Hp) : Prop := SqT C.K H a xs ∧ RepL C W H xs ds
theorem src_tup {a : Addr} {xs : List V} {ds : List D} : SrcOk C (Itt C.K a) ds (TupAt C a xs ds) where
  mv := fun W W' O H H' p k ho hw => ⟨k.sqT p.1, p.2.move k ho hw⟩
  go := fun W H i d p e => by
    obtain ⟨v, h1, h2⟩ := p.2.get e
    exact ⟨⟨xs, v, p.1, h1⟩, fun x H' ⟨hH, hy⟩ => by
      subst hH
      refine ⟨.inl rfl, ?_⟩
      have q := hy xs p.1
      rw [h1] at q; cases q
      exact h2⟩
  stop := fun W H i p h => ⟨xs, p.1, by rw [p.2.length]; exact h⟩
def rgN (lo : Int) (n : Nat) : List D := (List.range n).map fun i => .int (lo + (i : Nat))
theorem rgN_get {lo : Int} {n i : Nat} {d : D} (h : (rgN lo n)[i]? = some d) : i < n ∧ d = .int (lo + (i : Nat)) := by
  unfold rgN at h
  rw [List.getElem?_map] at h
  cases e : (List.range n)[i]? with
  | none => rw [e] at h; cases h
  | some j =>
    rw [e] at h
    obtain ⟨h1, h2⟩ := List.getElem?_eq_some_iff.mp e
    rw [List.getElem_range] at h2
    subst h2
    exact ⟨by simpa using h1, (Option.some.inj h).symm⟩
theorem src_rg {lo : Int} {n : Nat} : SrcOk C (Itr lo n) (rgN lo n) (fun _ _ => True) where
  mv := fun _ _ _ _ _ _ _ _ _ => trivial
  go := fun W H i d _ e => by
    obtain ⟨h1, rfl⟩ := rgN_get e
    exact ⟨h1, fun x H' ⟨hH, hy⟩ => by subst hH hy; exact ⟨.inl rfl, .int _⟩⟩
  stop := fun W H i _ h => by
    have z : (rgN lo n).length = n := by simp [rgN]
    rw [z] at h; exact h
theorem src_enum {a : Addr} {xs : List V} {ds : List D} : SrcOk C (Ite C.K a) (enumD 0 ds) (LstAt C a xs ds) where
  mv := fun W W' O H H' p k ho hw => p.mv k ho hw
  go := fun W H i d p e => by
    rw [enumD_get] at e
    cases q : ds[i]? with
    | none => rw [q] at e; cases e
    | some d0 =>
      rw [q] at e
      have e' := Option.some.inj e
      subst e'
      obtain ⟨v, h1, h2⟩ := p.2.get q
      refine ⟨⟨xs, v, p.sq, h1⟩, fun x H' ⟨T, y, hx, hT, hH, hy⟩ => ?_⟩
      subst hx hH
      have z := hy xs p.sq
      rw [h1] at z; cases z
      refine ⟨.inr ⟨T, _, hT, rfl⟩, .tup (.inl (.inl upd_same)) (.cons ?_ (.cons ?_ .nil))⟩
      · rw [Nat.zero_add]; exact .int _
      · exact h2.move (O := fun _ => False) (fun a o h _ => by rw [upd_ne (ne_of_none h hT)]; exact h) (fun _ z => z.elim) fun _ z => .inl z
  stop := fun W H i p h => ⟨xs, p.sq, by rw [p.2.length]; rw [enumD_len] at h; exact h⟩
theorem src_zip {a b : Addr} {xs ys : List V} {ds es : List D} : SrcOk C (Itz C.K a b) (zipD ds es) (fun W H => LstAt C a xs ds W H ∧ LstAt C b ys es W H) where
  mv := fun W W' O H H' p k ho hw => ⟨p.1.mv k ho hw, p.2.mv k ho hw⟩
  go := fun W H i z p e => by
    obtain ⟨d, e, h1, h2, rfl⟩ := zipD_get ds es i z e
    obtain ⟨v, v1, v2⟩ := p.1.2.get h1
    obtain ⟨w, w1, w2⟩ := p.2.2.get h2
    refine ⟨⟨xs, ys, v, w, p.1.sq, p.2.sq, v1, w1⟩, fun x H' ⟨T, x1, y1, hx, hT, hH, hy, hz⟩ => ?_⟩
    subst hx hH
    have z1 := hy xs p.1.sq
    rw [v1] at z1; cases z1
    have z2 := hz ys p.2.sq
    rw [w1] at z2; cases z2
    have k : Kept (fun _ => False) H (upd H T (.tup [v, w])) := fun a o h _ => by rw [upd_ne (ne_of_none h hT)]; exact h
    exact ⟨.inr ⟨T, _, hT, rfl⟩, .tup (.inl (.inl upd_same)) (.cons (v2.move k (fun _ z => z.elim) fun _ z => .inl z) (.cons (w2.move k (fun _ z => z.elim) fun _ z => .inl z) .nil))⟩
  stop := fun W H i p h => ⟨xs, ys, p.1.sq, p.2.sq, by
    rw [p.1.2.length, p.2.2.length]
    exact zipD_len ds es i h⟩
/-- the items of a list's data -/
def lstOf : D → Option (List D)
  | .list xs => some xs
  | .dict [(.bool true, .list xs)] => some xs
  | _ => none
theorem lst_at {W : Addr → Prop} {v : V} {d : D} {ds : List D} (r : Rep C W H v d) (h : lstOf d = some ds) : ∃ a xs, v = .ref a ∧ LstAt C a xs ds W H := by
  unfold lstOf at h
  split at h
  · cases h
    cases r with
    | lst n h r => exact ⟨_, _, rfl, .inl ⟨n, h⟩, r⟩
  · cases h
    cases r with
    | scr h r => exact ⟨_, _, rfl, .inr h, r⟩
  · cases h
def giList (ga : Sl → EV) : Sl → R Sl (List D) := fun δ => (ga δ).bind fun x δ1 => match lstOf x.1 with
  | some ds => .ok ds δ1
  | none => .stk
theorem pid_list (ha : PE X a (tD C W G ga)) (hK : X.K = C.K := by rfl) : PI X tg a (tI C W G (giList ga)) := by
  have h := pi_list (tg := tg) ha
  rw [hK] at h
  exact PI.imp h fun σ H R ⟨δ, E, p⟩ => ⟨δ, E, (Post.bind p).imp fun x δ1 H1 E1 X1 p1 v rv _ => by
    split at p1
    · rename_i ds hd
      obtain ⟨a, xs, rfl, la⟩ := lst_at rv hd
      exact ⟨a, rfl, ⟨xs, la.sq⟩, p1 H1 E1 Ext.refl _ _ src_list la⟩
    · exact p1.elim⟩
def giTup (ga : Sl → EV) : Sl → R Sl (List D) := fun δ => (ga δ).bind fun x δ1 => match x.1 with
  | .tuple ds => .ok ds δ1
  | _ => .stk
theorem pid_tup (ha : PE X a (tD C W G ga)) (hK : X.K = C.K := by rfl) : PI X tg a (tI C W G (giTup ga)) := by
  have h := pi_tup (tg := tg) ha
  rw [hK] at h
  exact PI.imp h fun σ H R ⟨δ, E, p⟩ => ⟨δ, E, (Post.bind p).imp fun x δ1 H1 E1 X1 p1 v rv _ => by
    obtain ⟨d, fr⟩ := x
    cases d <;> first | exact (show False from p1).elim | skip
    cases rv with
    | tup h r => exact ⟨_, rfl, ⟨_, h⟩, p1 H1 E1 Ext.refl _ _ src_tup ⟨h, r⟩⟩⟩
def giRg1 (gr : Sl → R Sl (List D)) : Sl → R Sl (List D) := fun δ => (gr δ).bind fun xs δ1 => match xs with
  | [.int j] => if -1000000 ≤ j ∧ j ≤ 16777216 then .ok (rgN 0 j.toNat) δ1 else .stk
  | _ => .stk
def giRg2 (gr : Sl → R Sl (List D)) : Sl → R Sl (List D) := fun δ => (gr δ).bind fun xs δ1 => match xs with
  | [.int i, .int j] => if rgOk i j then .ok (rgN i (j - i).toNat) δ1 else .stk
  | _ => .stk
theorem pid_rg1 {p : Pos} (hg : Gl X "range") (hm : X.mg "range" = none) (ha : PA X [a] (tA C W G gr)) (hs : starEach [a] X.env = [(false, eval a X.env)] := by rfl) : PI X tg (.Call (.Name "range" p) [a] [] pos) (tI C W G (giRg1 gr)) := PI.imp (pi_range1 hg hm ha hs) fun σ H R ⟨δ, E, p⟩ =>
  ⟨δ, E, (Post.bind p).imp fun x δ1 H1 E1 X1 p1 vs rs => by
    split at p1
    · rename_i j
      split at p1
      · rename_i hj
        obtain ⟨v, rfl, rv⟩ := rs.one_inv
        cases rv
        exact ⟨j, rfl, by omega, by omega, p1 H1 E1 Ext.refl _ _ src_rg trivial⟩
      · exact p1.elim
    · exact p1.elim⟩
theorem pid_rg2 {p : Pos} (hg : Gl X "range") (hm : X.mg "range" = none) (ha : PA X [a, b] (tA C W G gr)) (hs : starEach [a, b] X.env = [(false, eval a X.env), (false, eval b X.env)] := by rfl) (hs2 : starEach [b] X.env = [(false, eval b X.env)] := by rfl) :
    PI X tg (.Call (.Name "range" p) [a, b] [] pos) (tI C W G (giRg2 gr)) := PI.imp (pi_range2 hg hm ha hs hs2) fun σ H R ⟨δ, E, p⟩ =>
  ⟨δ, E, (Post.bind p).imp fun x δ1 H1 E1 X1 p1 vs rs => by
    split at p1
    · rename_i i j
      split at p1
      · rename_i hj
        obtain ⟨v, w, rfl, rv, rw⟩ := rs.two_inv
        cases rv; cases rw
        have ok := rgOk_ok hj
        exact ⟨i, j, rfl, ⟨ok.1, ok.2.1, ok.2.2.1, ok.2.2.2.1⟩, p1 H1 E1 Ext.refl _ _ src_rg trivial⟩
      · exact p1.elim
    · exact p1.elim⟩
def giEnum (ga : Sl → EV) : Sl → R Sl (List D) := fun δ => (ga δ).bind fun x δ1 => match lstOf x.1 with
  | some ds => .ok (enumD 0 ds) δ1
  | none => .stk
theorem pid_enum {p tpos : Pos} {elts : List Expr} {kk : Nat} (hg : Gl X "enumerate") (hm : X.mg "enumerate" = none) (ha : PE X a (tD C W G ga)) (hs : starEach [a] X.env = [(false, eval a X.env)] := by rfl) (hK : X.K = C.K := by rfl) :
    PI X (.Tuple elts kk tpos) (.Call (.Name "enumerate" p) [a] [] pos) (tI C W G (giEnum ga)) := by
  have h := pi_enum (pos := pos) (p := p) (tpos := tpos) (elts := elts) (kk := kk) hg hm (pa_cons ha pa_nil hs) hs
  rw [hK] at h
  exact PI.imp h fun σ H R ⟨δ, E, p⟩ => ⟨δ, E, (Post.bind p).imp fun x δ1 H1 E1 X1 p1 v rv _ => by
    split at p1
    · rename_i ds hd
      obtain ⟨a, xs, rfl, la⟩ := lst_at rv hd
      exact ⟨a, xs, rfl, la.sq, p1 H1 E1 Ext.refl _ _ src_enum la⟩
    · exact p1.elim⟩
def giZip (ga gb : Sl → EV) : Sl → R Sl (List D) := fun δ => (ga δ).bind fun x δ1 => (gb δ1).bind fun y δ2 => match lstOf x.1, lstOf y.1 with
  | some ds, some es => .ok (zipD ds es) δ2
  | _, _ => .stk
theorem pid_zip {p tpos : Pos} {elts : List Expr} {kk : Nat} (hg : Gl X "zip") (hm : X.mg "zip" = none) (ha : PE X a (tD C W G ga)) (hb : PE X b (tD C W G gb)) (hs : starEach [a, b] X.env = (false, eval a X.env) :: starEach [b] X.env := by rfl) (hs2 : starEach [b] X.env = [(false, eval b X.env)] := by rfl)
    (hpl : (backTo pos (starEach [b] X.env)).any (·.1) = false := by rfl) (hK : X.K = C.K := by rfl) : PI X (.Tuple elts kk tpos) (.Call (.Name "zip" p) [a, b] [] pos) (tI C W G (giZip ga gb)) := by
  have h := pi_zip (pos := pos) (p := p) (tpos := tpos) (elts := elts) (kk := kk) hg hm (pa_cons ha (pa_cons hb pa_nil hs2) hs) hs hpl
  rw [hK] at h
  exact PI.imp h fun σ H R ⟨δ, E, p⟩ => ⟨δ, E, (Post.bind p).imp fun x δ1 H1 E1 X1 p1 v rv _ => ⟨δ1, E1, (Post.bind p1).imp fun y δ2 H2 E2 X2 p2 w rw _ => by
    split at p2
    · rename_i ds es hd he
      obtain ⟨a, xs, rfl, la⟩ := lst_at (X2.rep rv) hd
      obtain ⟨b, ys, rfl, lb⟩ := lst_at rw he
      exact ⟨a, b, xs, ys, rfl, la.sq, lb.sq, p2 H2 E2 Ext.refl _ _ src_zip ⟨la, lb⟩⟩
    · exact p2.elim⟩⟩
end

def setSlot (io : List Nat) (i : Nat) (x : Option (Bool × D)) (δ : Sl) : Option Sl := if io.contains i || decide (δ.length ≤ i) then none else some (δ.set i x)
/-- the slots that may have changed -/
def OffT (ts : List Nat) (σ σ' : St) : Prop := σ'.length = σ.length ∧ ∀ j, j ∉ ts → σ'[j]? = σ[j]?
theorem OffT.refl {ts : List Nat} {σ : St} : OffT ts σ σ := ⟨rfl, fun _ _ => rfl⟩
theorem OffT.trans {ts : List Nat} {σ σ1 σ2 : St} (a : OffT ts σ σ1) (b : OffT ts σ1 σ2) : OffT ts σ σ2 := ⟨b.1.trans a.1, fun j h => (b.2 j h).trans (a.2 j h)⟩
theorem OffT.mono {ts us : List Nat} {σ σ1 : St} (a : OffT ts σ σ1) (h : ∀ i ∈ ts, i ∈ us) : OffT us σ σ1 := ⟨a.1, fun j n => a.2 j fun z => n (h j z)⟩
/-- a target: what it does to the slots with data (fr: a list that nothing else has) -/
def kG (C : Ct) (G : Gh) (ts : List Nat) (δ : Sl) (σ : St) (H : Hp) (Q : St → Hp → Prop) (r : Option Sl) : Prop := match r with
  | some δ' => ∀ σ' H', ERel C G δ' σ' H' → Ext δ σ H δ' σ' H' → OffT ts σ σ' → (∀ i ∈ G.io, i ∉ ts ∨ σ'[i]? = σ[i]?) → Q σ' H'
  | none => False
def tG (C : Ct) (G : Gh) (ts : List Nat) (g : D → Bool → Sl → Option Sl) : TG := fun v σ H Q => ∃ δ0 H0 δ d fr, ERel C G δ σ H ∧ Ext δ0 σ H0 δ σ H ∧ Rep C (WW G δ σ) H v d ∧ (fr = true → FreshN C G δ0 H0 δ σ H v d) ∧ kG C G ts δ0 σ H0 Q (g d fr δ)
def tGs (C : Ct) (G : Gh) (ts : List Nat) (g : List D → Sl → Option Sl) : TGs := fun vs σ H Q => ∃ δ ds, ERel C G δ σ H ∧ RepL C (WW G δ σ) H vs ds ∧ kG C G ts δ σ H Q (g ds δ)
theorem PG.imp {X : Cx} {e : Expr} {t t' : TG} (h : PG X e t) (hi : ∀ v σ H Q, t' v σ H Q → t v σ H Q) : PG X e t' := ⟨fun pins s σ H v u Q I r q => h.run pins s σ H v u Q I r (hi v σ H Q q)⟩
theorem PGs.imp {X : Cx} {e : List Expr} {t t' : TGs} (h : PGs X e t) (hi : ∀ v σ H Q, t' v σ H Q → t v σ H Q) : PGs X e t' := ⟨fun pins s σ H v u Q I r q => h.run pins s σ H v u Q I r (hi v σ H Q q)⟩
def gtName (io : List Nat) (i : Nat) : D → Bool → Sl → Option Sl := fun d fr δ => setSlot io i (some (fr, d)) δ
def gtNil : List D → Sl → Option Sl := fun ds δ => match ds with
  | [] => some δ
  | _ => none
def gtCons (g : D → Bool → Sl → Option Sl) (gs : List D → Sl → Option Sl) : List D → Sl → Option Sl := fun ds δ => match ds with
  | d :: r => (g d false δ).bind fun δ1 => gs r δ1
  | [] => none
def gtTup (gs : List D → Sl → Option Sl) : D → Bool → Sl → Option Sl := fun d _ δ => match d with
  | .tuple ds => gs ds δ
  | _ => none
section
variable {C : Ct} {W : WX} {G : Gh} {δ δ1 : Sl} {σ : St} {H H1 : Hp} {X : Cx} {tg a b c e : Expr} {es : List Expr} {pos : Pos}
theorem own_store {i : Nat} {x : Bool × D} {v : V} (hl : δ.length = σ.length) : ∀ a, Own (δ.set i (some x)) (σ.set i (some v)) a → (Own δ σ a) ∨ (x.1 = true ∧ v = .ref a) := fun a ⟨j, d, h1, h2⟩ => by
  by_cases e : i = j
  · subst e
    by_cases hi : i < δ.length
    · rw [List.getElem?_set_self hi] at h1
      rw [List.getElem?_set_self (hl ▸ hi)] at h2
      have z := Option.some.inj (Option.some.inj h1)
      have z2 := Option.some.inj (Option.some.inj h2)
      exact .inr ⟨by rw [z], z2⟩
    · rw [List.getElem?_eq_none (by simpa using hi)] at h1; cases h1
  · rw [List.getElem?_set_ne e] at h1 h2
    exact .inl ⟨j, d, h1, h2⟩
/-- a slot is stored -/
theorem ERel.store {i : Nat} {v : V} {d : D} {fr : Bool} (E : ERel C G δ σ H) (hi : i < δ.length) (hio : i ∉ G.io) (r : Rep C (WW G δ σ) H v d) (f : fr = true → FreshV C G δ σ H v d) : ERel C G (δ.set i (some (fr, d))) (σ.set i (some v)) H ∧ ∀ a, Own (δ.set i (some (fr, d))) (σ.set i (some v)) a → Own δ σ a ∨ (fr = true ∧ v = .ref a) := by
  cases fr with
  | false =>
    have o : ∀ a, Own (δ.set i (some (false, d))) (σ.set i (some v)) a → Own δ σ a := fun a z => (own_store E.len a z).elim id fun q => by cases q.1
    have w : ∀ a, WW G (δ.set i (some (false, d))) (σ.set i (some v)) a → WW G δ σ a := fun a z => z.elim .inl fun q => .inr (o a q)
    refine ⟨⟨by rw [List.length_set, List.length_set]; exact E.len, fun j e h => ?_, fun j e h => ?_, fun j k a dj dk g1 g2 g3 g4 => ?_, E.fl, E.ol, E.sz⟩, fun a z => .inl (o a z)⟩
    · by_cases q : i = j
      · subst q
        rw [List.getElem?_set_self hi] at h
        cases h
        exact ⟨v, List.getElem?_set_self (E.len ▸ hi), r.weak w⟩
      · rw [List.getElem?_set_ne q] at h
        obtain ⟨u, h1, h2⟩ := E.sh j e h
        exact ⟨u, by rw [List.getElem?_set_ne q]; exact h1, h2.weak w⟩
    · by_cases q : i = j
      · subst q
        rw [List.getElem?_set_self hi] at h
        cases h
      · rw [List.getElem?_set_ne q] at h
        obtain ⟨b, ys, es, h1, h2, h3, h4, h5⟩ := E.ow j e h
        exact ⟨b, ys, es, by rw [List.getElem?_set_ne q]; exact h1, h2, h3, h4.weak w, h5⟩
    · by_cases q : i = j
      · subst q
        rw [List.getElem?_set_self hi] at g1; cases g1
      · by_cases q' : i = k
        · subst q'
          rw [List.getElem?_set_self hi] at g2; cases g2
        · rw [List.getElem?_set_ne q] at g1 g3
          rw [List.getElem?_set_ne q'] at g2 g4
          exact E.inj j k a dj dk g1 g2 g3 g4
  | true =>
    obtain ⟨a, xs, ds, rfl, rfl, f1, f2, f3, f4, F⟩ := f rfl
    have o : ∀ b, Own (δ.set i (some (true, PyData.list ds))) (σ.set i (some (V.ref a))) b → Own δ σ b ∨ b = a := fun b z => (own_store E.len b z).imp id fun q => by cases q.2; rfl
    have w : ∀ b, WW G (δ.set i (some (true, PyData.list ds))) (σ.set i (some (V.ref a))) b → WW (G.plus a) δ σ b := fun b z => z.elim (fun q => .inl (.inl q)) fun q => (o b q).elim .inr fun e => .inl (.inr e)
    have na : ¬ Own δ σ a := fun ⟨j, e, h1, h2⟩ => by
      obtain ⟨b, _, _, g1, _, _, _, g2, _⟩ := F.ow j e h1
      rw [h2] at g1; cases g1
      exact g2 (.inr rfl)
    refine ⟨⟨by rw [List.length_set, List.length_set]; exact E.len, fun j e h => ?_, fun j e h => ?_, fun j k b dj dk g1 g2 g3 g4 => ?_, E.fl, E.ol, E.sz⟩, fun b z => (o b z).imp id fun e => ⟨rfl, by rw [e]⟩⟩
    · by_cases q : i = j
      · subst q
        rw [List.getElem?_set_self hi] at h
        cases h
      · rw [List.getElem?_set_ne q] at h
        obtain ⟨u, h1, h2⟩ := F.sh j e h
        exact ⟨u, by rw [List.getElem?_set_ne q]; exact h1, h2.weak w⟩
    · by_cases q : i = j
      · subst q
        rw [List.getElem?_set_self hi] at h
        cases h
        exact ⟨a, xs, ds, List.getElem?_set_self (E.len ▸ hi), rfl, f3, f4.weak w, f2, fun _ => f1⟩
      · rw [List.getElem?_set_ne q] at h
        obtain ⟨b, ys, es, h1, h2, h3, h4, h5, h6⟩ := F.ow j e h
        exact ⟨b, ys, es, by rw [List.getElem?_set_ne q]; exact h1, h2, h3, h4.weak w, fun z => h5 (.inl z), h6⟩
    · by_cases q : i = j
      · subst q
        by_cases q' : i = k
        · exact q'
        · rw [List.getElem?_set_self (E.len ▸ hi)] at g3
          cases g3
          rw [List.getElem?_set_ne q'] at g2 g4
          exact absurd ⟨k, dk, g2, g4⟩ na
      · by_cases q' : i = k
        · subst q'
          rw [List.getElem?_set_self (E.len ▸ hi)] at g4
          cases g4
          rw [List.getElem?_set_ne q] at g1 g3
          exact absurd ⟨j, dj, g1, g3⟩ na
        · rw [List.getElem?_set_ne q] at g1 g3
          rw [List.getElem?_set_ne q'] at g2 g4
          exact E.inj j k b dj dk g1 g2 g3 g4
theorem OffT.set {i : Nat} {x : Option V} : OffT [i] σ (σ.set i x) := ⟨by rw [List.length_set], fun j h => List.getElem?_set_ne (fun e => h (by simp [e]))⟩
theorem pgd_name {i : Nat} {x : Str} (h : PG X (.Name x pos) (gName i)) : PG X (.Name x pos) (tG C G [i] (gtName G.io i)) := PG.imp h fun v σ H Q ⟨δ0, H0, δ, d, fr, E, X0, r, f, k⟩ => by
  show Q (σ.set i (some v)) H
  unfold gtName setSlot at k
  split at k
  · exact k.elim
  · rename_i hn
    rw [Bool.or_eq_true, not_or] at hn
    have hi : i < δ.length := by
      have := hn.2
      simp at this
      exact this
    have hio : i ∉ G.io := by simpa using hn.1
    obtain ⟨E', o⟩ := E.store hi hio r fun z => (f z).1
    refine k _ _ E' ⟨X0.kp, X0.th, fun a z => ?_⟩ OffT.set fun j hj => .inl (by simp; exact fun e => hio (e ▸ hj))
    rcases o a z with q | ⟨q1, q2⟩
    · exact X0.own a q
    · exact ((f q1).2 a q2).symm
theorem pgds_nil : PGs X [] (tGs C G [] gtNil) := PGs.imp pgs_nil fun vs σ H Q ⟨δ, ds, E, r, k⟩ => by
  unfold gtNil at k
  split at k
  · cases r
    exact ⟨rfl, k σ H E Ext.refl OffT.refl fun _ _ => .inr rfl⟩
  · exact k.elim
theorem pgds_cons {g : D → Bool → Sl → Option Sl} {gs : List D → Sl → Option Sl} {ts us : List Nat} (h1 : PG X e (tG C G ts g)) (h2 : PGs X es (tGs C G us gs))
    (hs : (assignEach (e :: es) X.env).map (·.2) = assign e X.env :: (assignEach es X.env).map (·.2) := by rfl) : PGs X (e :: es) (tGs C G (ts ++ us) (gtCons g gs)) := PGs.imp (pgs_cons h1 h2 hs) fun vs σ H Q ⟨δ, ds, E, r, k⟩ => by
  unfold gtCons at k
  split at k
  · rename_i d ds'
    cases r with
    | cons r1 rs =>
      refine ⟨_, _, rfl, δ, H, δ, d, false, E, Ext.refl, r1, (fun z => nomatch z), ?_⟩
      cases q : g d false δ with
      | none => rw [q] at k; exact k.elim
      | some δ1 =>
        rw [q] at k
        intro σ1 H1 E1 X1 o1 i1
        refine ⟨δ1, ds', E1, X1.repL rs, ?_⟩
        have k' : kG C G (ts ++ us) δ σ H Q (gs ds' δ1) := k
        cases q2 : gs ds' δ1 with
        | none => rw [q2] at k'; exact k'.elim
        | some δ2 =>
          rw [q2] at k'
          intro σ2 H2 E2 X2 o2 i2
          refine k' σ2 H2 E2 (X1.trans X2) ((o1.mono fun i h => List.mem_append_left _ h).trans (o2.mono fun i h => List.mem_append_right _ h)) fun i hi => ?_
          rcases i1 i hi with z | z
          · rcases i2 i hi with y | y
            · exact .inl fun q => (List.mem_append.mp q).elim z y
            · by_cases hu : i ∈ us
              · by_cases ht : i ∈ ts
                · exact absurd ht z
                · exact .inr (y.trans (o1.2 i ht))
              · exact .inl fun q => (List.mem_append.mp q).elim z hu
          · rcases i2 i hi with y | y
            · exact .inr ((o2.2 i y).trans z)
            · exact .inr (y.trans z)
  · exact k.elim
theorem pgd_tup {k : Nat} {gs : List D → Sl → Option Sl} {ts : List Nat} {n : Nat} (hc : X.calm = true) (h : PGs X es (tGs C G ts gs)) (hlen : ∀ ds δ δ', gs ds δ = some δ' → ds.length = n)
    (hn : (assignEach es X.env).length = n := by rfl) (hst : (assignEach es X.env).findIdx? (·.1) = none := by rfl) (hK : X.K = C.K := by rfl) : PG X (.Tuple es k pos) (tG C G ts (gtTup gs)) := by
  have h' := pg_tup (pos := pos) (k := k) hc h hn hst
  rw [hK] at h'
  exact PG.imp h' fun v σ H Q ⟨δ0, H0, δ, d, fr, E, X0, r, f, k⟩ => by
    unfold gtTup at k
    split at k
    · rename_i ds
      cases r with
      | tup hs rs =>
        cases q : gs ds δ with
        | none => rw [q] at k; exact k.elim
        | some δ' =>
          refine ⟨_, _, rfl, hs, by rw [rs.length]; exact hlen ds δ δ' q, δ, ds, E, rs, ?_⟩
          rw [q] at k ⊢
          exact fun σ' H' E' X' o i => k σ' H' E' (X0.trans X') o i
    · exact k.elim
theorem gtNil_len (ds : List D) (δ δ' : Sl) (h : gtNil ds δ = some δ') : ds.length = 0 := by
  unfold gtNil at h
  split at h
  · rfl
  · cases h
theorem gtCons_len {g : D → Bool → Sl → Option Sl} {gs : List D → Sl → Option Sl} {n : Nat} (h : ∀ ds δ δ', gs ds δ = some δ' → ds.length = n) (ds : List D) (δ δ' : Sl) (e : gtCons g gs ds δ = some δ') : ds.length = n + 1 := by
  unfold gtCons at e
  split at e
  · rename_i d r
    cases q : g d false δ with
    | none => rw [q] at e; cases e
    | some δ1 =>
      rw [q] at e
      rw [List.length_cons, h r δ1 δ' e]
  · cases e
end

inductive Fl where
  | nx | rt (d : D) (fr : Bool) | bk | ct
abbrev SV := R Sl Fl
def IoK (G : Gh) (σ σ' : St) : Prop := ∀ i ∈ G.io, σ'[i]? = σ[i]?
def kF (C : Ct) (G : Gh) (D : Ends) (f : Fl) (δ' : Sl) (σ' : St) (H' : Hp) : Prop := match f with
  | .nx => D.nx σ' H'
  | .bk => D.bk σ' H'
  | .ct => D.ct σ' H'
  | .rt d fr => ∀ v, Rep C (WW G δ' σ') H' v d → (fr = true → FreshV C G δ' σ' H' v d ∨ FreshP C G δ' σ' H' v d) → D.rt v H'
def PostS (C : Ct) (W : WX) (G : Gh) (δ : Sl) (σ : St) (H : Hp) (D : Ends) (r : SV) : Prop := match r with
  | .ok f δ' => ∀ σ' H', ERel C G δ' σ' H' → Ext δ σ H δ' σ' H' → IoK G σ σ' → kF C G D f δ' σ' H'
  | .exc c xs δ' => ∀ cls dct σ' H', ERel C G δ' σ' H' → Ext δ σ H δ' σ' H' → IoK G σ σ' → ExcV C (WW G δ' σ') H' cls dct c xs → W cls dct σ' H'
  | .stk => False
def tS (C : Ct) (W : WX) (G : Gh) (g : Sl → SV) : TS := fun D σ H => ∃ δ, ERel C G δ σ H ∧ PostS C W G δ σ H D (g δ)
theorem IoK.refl {G : Gh} {σ : St} : IoK G σ σ := fun _ _ => rfl
theorem IoK.trans {G : Gh} {σ σ1 σ2 : St} (a : IoK G σ σ1) (b : IoK G σ1 σ2) : IoK G σ σ2 := fun i h => (b i h).trans (a i h)
/-- a statement, then the rest -/
def sSeq (g h : Sl → SV) : Sl → SV := fun δ => match g δ with
  | .ok .nx δ1 => h δ1
  | r => r
def sNext : Sl → SV := fun δ => .ok .nx δ
def sBreak : Sl → SV := fun δ => .ok .bk δ
def sCont : Sl → SV := fun δ => .ok .ct δ
def sExpr (ga : Sl → EV) : Sl → SV := fun δ => (ga δ).bind fun _ δ1 => .ok .nx δ1
def sRet (ga : Sl → EV) : Sl → SV := fun δ => (ga δ).bind fun x δ1 => .ok (.rt x.1 x.2) δ1
def sIf (gt : Sl → R Sl Bool) (g h : Sl → SV) : Sl → SV := fun δ => (gt δ).bind fun b δ1 => if b = true then g δ1 else h δ1
def sAsg (ga : Sl → EV) (g : D → Bool → Sl → Option Sl) : Sl → SV := fun δ => (ga δ).bind fun x δ1 => match g x.1 x.2 δ1 with
  | some δ2 => .ok .nx δ2
  | none => .stk
section
variable {C : Ct} {W : WX} {G : Gh} {δ δ1 : Sl} {σ σ1 : St} {H H1 : Hp} {X : Cx} {a b e : Expr} {st : Stmt} {rest ss : List Stmt} {ga gb : Sl → EV} {g h : Sl → SV} {gt : Sl → R Sl Bool} {pos : Pos} {D : Ends} {r : SV}
theorem PostS.later (x : Ext δ σ H δ1 σ1 H1) (i : IoK G σ σ1) (p : PostS C W G δ σ H D r) : PostS C W G δ1 σ1 H1 D r := by
  cases r with
  | ok f δ' => exact fun σ' H' E X I => p σ' H' E (x.trans X) (i.trans I)
  | exc c xs δ' => exact fun cls dct σ' H' E X I v => p cls dct σ' H' E (x.trans X) (i.trans I) v
  | stk => exact p
/-- an expression ahead of a statement's end -/
theorem PostS.bindE {f : PyData × Bool → Sl → SV} {x : EV} (p : PostS C W G δ σ H D (x.bind f)) : Post C W G δ σ H (fun y δ1 H1 => PostS C W G δ1 σ H1 D (f y δ1)) x := by
  cases x with
  | ok y δ' => exact fun H' E X => PostS.later X IoK.refl p
  | exc c xs δ' => exact fun cls dct H' E X v => p cls dct σ H' E X IoK.refl v
  | stk => exact p
theorem PostS.bindT {α : Type} {f : α → Sl → SV} {x : R Sl α} (p : PostS C W G δ σ H D (x.bind f)) : Post C W G δ σ H (fun y δ1 H1 => PostS C W G δ1 σ H1 D (f y δ1)) x := by
  cases x with
  | ok y δ' => exact fun H' E X => PostS.later X IoK.refl p
  | exc c xs δ' => exact fun cls dct H' E X v => p cls dct σ H' E X IoK.refl v
  | stk => exact p
theorem pssd_nil : PSs X [] (tS C W G sNext) := PSs.imp pss_nil fun D σ H ⟨δ, E, p⟩ => p σ H E Ext.refl IoK.refl
theorem seq_ok (hp : PostS C W G δ σ H D (sSeq g h δ)) : PostS C W G δ σ H { D with nx := tS C W G h D } (g δ) := by
  unfold sSeq at hp
  cases q : g δ with
  | ok f δ1 =>
    rw [q] at hp
    cases f with
    | nx => exact fun σ' H' E X I => ⟨δ1, E, PostS.later X I hp⟩
    | rt d fr => exact hp
    | bk => exact hp
    | ct => exact hp
  | exc c xs δ1 => rw [q] at hp; exact hp
  | stk => rw [q] at hp; exact hp
theorem pssd_cons (h1 : PS X st (tS C W G g)) (h2 : PSs X rest (tS C W G h)) : PSs X (st :: rest) (tS C W G (sSeq g h)) := PSs.imp (pss_cons h1 h2) fun D σ H ⟨δ, E, p⟩ => ⟨δ, E, seq_ok p⟩
theorem pssd_one (h1 : PS X st (tS C W G g)) : PSs X [st] (tS C W G g) := pss_one h1
theorem psd_pass : PS X (.Pass pos) (tS C W G sNext) := PS.imp ps_pass fun D σ H ⟨δ, E, p⟩ => p σ H E Ext.refl IoK.refl
theorem psd_break : PS X (.Break pos) (tS C W G sBreak) := PS.imp ps_break fun D σ H ⟨δ, E, p⟩ => p σ H E Ext.refl IoK.refl
theorem psd_cont : PS X (.Continue pos) (tS C W G sCont) := PS.imp ps_continue fun D σ H ⟨δ, E, p⟩ => p σ H E Ext.refl IoK.refl
theorem psd_expr (ha : PE X a (tD C W G ga)) (hs : swapsWith a none pos.line X.env = pure false := by rfl) : PS X (.Expr a pos) (tS C W G (sExpr ga)) := PS.imp (ps_expr ha hs) fun D σ H ⟨δ, E, p⟩ =>
  ⟨δ, E, (PostS.bindE p).imp fun x δ1 H1 E1 X1 p1 v rv _ => p1 σ H1 E1 Ext.refl IoK.refl⟩
theorem psd_ret (ha : PE X a (tD C W G ga)) : PS X (.Return (some a) pos) (tS C W G (sRet ga)) := PS.imp (ps_ret ha) fun D σ H ⟨δ, E, p⟩ =>
  ⟨δ, E, (PostS.bindE p).imp fun x δ1 H1 E1 X1 p1 v rv f => p1 σ H1 E1 Ext.refl IoK.refl v rv fun z => .inl (f z).1⟩
theorem psd_retN : PS X (.Return none pos) (tS C W G (sRet (gC .none))) := PS.imp ps_retN fun D σ H ⟨δ, E, p⟩ => p σ H E Ext.refl IoK.refl .non .non fun z => nomatch z
theorem psd_if {t : Expr} {sa sb : List Stmt} (ht : PT X t (tT C W G gt)) (ha : PSs X sa (tS C W G g)) (hb : PSs X sb (tS C W G h)) : PS X (.If t sa sb pos) (tS C W G (sIf gt g h)) := PS.imp (ps_if ht ha hb) fun D σ H ⟨δ, E, p⟩ =>
  ⟨δ, E, (PostS.bindT p).imp fun x δ1 H1 E1 X1 p1 => by
    cases x with
    | true => exact iteT (A := tS C W G g D σ H1) (B := tS C W G h D σ H1) ⟨δ1, E1, p1⟩
    | false => exact iteF (A := tS C W G g D σ H1) (B := tS C W G h D σ H1) ⟨δ1, E1, p1⟩⟩
theorem io_of {ts : List Nat} {σ' : St} (o : OffT ts σ σ') (i : ∀ i ∈ G.io, i ∉ ts ∨ σ'[i]? = σ[i]?) : IoK G σ σ' := fun j hj => (i j hj).elim (o.2 j) id
theorem tAsg_ok {tgt : PyData → Bool → Sl → Option Sl} {ts : List Nat} (D : Ends) (σ : St) (H : Hp) (hh : tS C W G (sAsg ga tgt) D σ H) : tAsg (tD C W G ga) (tG C G ts tgt) D σ H := by
  obtain ⟨δ, E, p⟩ := hh
  refine ⟨δ, E, ?_⟩
  unfold sAsg at p
  cases q0 : ga δ with
  | ok x δ1 =>
    rw [q0] at p
    have p : PostS C W G δ σ H D (match tgt x.1 x.2 δ1 with | some δ2 => .ok .nx δ2 | none => .stk) := p
    intro H1 E1 X1 v rv f
    refine ⟨δ, H, δ1, x.1, x.2, E1, X1, rv, f, ?_⟩
    cases q : tgt x.1 x.2 δ1 with
    | none => rw [q] at p; exact p.elim
    | some δ2 =>
      rw [q] at p
      exact fun σ' H' E' X' o i => p σ' H' E' X' (io_of o i)
  | exc c xs δ1 =>
    rw [q0] at p
    exact fun cls dct H' E' X' v => p cls dct σ H' E' X' IoK.refl v
  | stk => rw [q0] at p; exact p
theorem psd_asg {tg : Expr} {tgt : PyData → Bool → Sl → Option Sl} {ts : List Nat} (ha : PE X a (tD C W G ga)) (hg : PG X tg (tG C G ts tgt)) (hs : swapsWithSole [tg] a pos.line X.env = pure false := by rfl) (hw : swappedStores [tg] a X.env = pure none := by rfl)
    (h1 : (assignEach [tg] X.env).map (·.2) = [assign tg X.env] := by rfl) : PS X (.Assign [tg] a pos) (tS C W G (sAsg ga tgt)) := PS.imp (ps_asg ha hg hs hw h1) tAsg_ok
/-- name = e -/
theorem psd_set {i : Nat} {x : Str} {pos' : Pos} (hN : X.N.Nodup) (hi : X.N[i]? = some x) (hx : Loc X.env.scope x) (ha : PE X a (tD C W G ga)) (hs : swapsWith a (some (.Name x pos')) pos.line X.env = pure false := by rfl) (hf : X.fn x = true ∨ X.env.scope.names.lookup x = some .local := by first | exact .inl rfl | exact .inr rfl | assumption) :
    PS X (.Assign [.Name x pos'] a pos) (tS C W G (sAsg ga (gtName G.io i))) := PS.imp (ps_set hN hi hx ha hs hf) fun D σ H h => by
  obtain ⟨δ, E, p⟩ := tAsg_ok (ts := [i]) D σ H h
  refine ⟨δ, E, p.imp fun y δ1 H1 E1 X1 k v rv f => ?_⟩
  have k' := k v rv f
  obtain ⟨δ0, H0, δ2, d, fr, E2, X0, r, f2, k2⟩ := k'
  show D.nx (σ.set i (some v)) H1
  unfold gtName setSlot at k2
  split at k2
  · exact k2.elim
  · rename_i hn
    rw [Bool.or_eq_true, not_or] at hn
    have hi' : i < δ2.length := by
      have := hn.2
      simp at this
      exact this
    have hio : i ∉ G.io := by simpa using hn.1
    obtain ⟨E', o⟩ := E2.store hi' hio r fun z => (f2 z).1
    refine k2 _ _ E' ⟨X0.kp, X0.th, fun a z => ?_⟩ OffT.set fun j hj => .inl (by simp; exact fun e => hio (e ▸ hj))
    rcases o a z with q | ⟨q1, q2⟩
    · exact X0.own a q
    · exact ((f2 q1).2 a q2).symm
/-- name op= e, by the values' operator -/
def sAug (io : List Nat) (i : Nat) (f : DOp) (ga : Sl → EV) : Sl → SV := fun δ => match δ[i]? with
  | some (some (false, _)) => (ga δ).bind fun y δ1 => match δ1[i]? with
    | some (some (false, d)) => match f d y.1 with
      | some (e, false) => match setSlot io i (some (false, e)) δ1 with
        | some δ2 => .ok .nx δ2
        | none => .stk
      | _ => .stk
    | _ => .stk
  | _ => .stk
theorem psd_aug {i : Nat} {x : Str} {op : Operator} {rr : R2} {f : DOp} {pos' : Pos} (hN : X.N.Nodup) (hi : X.N[i]? = some x) (hx : Loc X.env.scope x) (ha : PE X a (tD C W G ga)) (ho : OpR X (inplaceOp op) rr) (od : OpD C rr f) (hf : X.fn x = true ∨ X.env.scope.names.lookup x = some .local := by first | exact .inl rfl | exact .inr rfl | assumption) :
    PS X (.AugAssign (.Name x pos') op a pos) (tS C W G (sAug G.io i f ga)) := PS.imp (ps_aug hN hi hx ha (ti := rr) ho hf) fun D σ H ⟨δ, E, p⟩ => by
  unfold sAug at p
  split at p
  · rename_i d0 h0
    obtain ⟨v, hv, rv⟩ := E.sh i d0 h0
    refine ⟨v, hv, δ, E, (PostS.bindE p).imp fun y δ1 H1 E1 X1 p1 w rw _ => ?_⟩
    split at p1
    · rename_i d1 h1
      obtain ⟨v', hv', rv'⟩ := E1.sh i d1 h1
      rw [hv] at hv'; cases hv'
      split at p1
      · rename_i e he
        split at p1
        · rename_i δ2 h2
          refine od G δ1 σ H1 v w d1 y.1 _ _ E1 rv' rw he fun u H' E' X' r' _ => ?_
          unfold setSlot at h2
          split at h2
          · cases h2
          · rename_i hn
            rw [Bool.or_eq_true, not_or] at hn
            have hi' : i < δ1.length := by
              have := hn.2
              simp at this
              exact this
            have hio : i ∉ G.io := by simpa using hn.1
            cases h2
            obtain ⟨E2, o⟩ := E'.store (fr := false) hi' hio r' fun z => nomatch z
            refine p1 _ _ E2 ⟨X'.kp, X'.th, fun a z => ?_⟩ fun j hj => List.getElem?_set_ne (fun (e : i = j) => hio (by rw [e]; exact hj))
            rcases o a z with q | ⟨q1, _⟩
            · exact X'.own a q
            · cases q1
        · exact p1.elim
      · exact p1.elim
    · exact p1.elim
  · exact p.elim
end
end DL

namespace DL
open PySem PySem.Spec L2
open PyProof.Rows hiding St

def forD (tgt : D → Bool → Sl → Option Sl) (body : Sl → SV) : List D → Sl → SV
  | [], δ => .ok .nx δ
  | d :: r, δ => match tgt d false δ with
    | none => .stk
    | some δ1 => match body δ1 with
      | .ok .nx δ2 => forD tgt body r δ2
      | .ok .ct δ2 => forD tgt body r δ2
      | .ok .bk δ2 => .ok .nx δ2
      | x => x
def sFor (gi : Sl → R Sl (List D)) (tgt : D → Bool → Sl → Option Sl) (body : Sl → SV) : Sl → SV := fun δ => (gi δ).bind fun ds δ1 => forD tgt body ds δ1
def whD (gt : Sl → R Sl Bool) (body : Sl → SV) : Nat → Sl → SV
  | 0, _ => .stk
  | n + 1, δ => (gt δ).bind fun b δ1 => if b = true then match body δ1 with
      | .ok .nx δ2 => whD gt body n δ2
      | .ok .ct δ2 => whD gt body n δ2
      | .ok .bk δ2 => .ok .nx δ2
      | x => x
    else .ok .nx δ1
def sWhile (n : Nat) (gt : Sl → R Sl Bool) (body : Sl → SV) : Sl → SV := whD gt body n

section
variable {C : Ct} {W : WX} {G : Gh} {δ δ1 : Sl} {σ σ1 : St} {H H1 : Hp} {X : Cx} {a b e tg iter : Expr} {ss : List Stmt} {g : Sl → SV} {gt : Sl → R Sl Bool} {gi : Sl → R Sl (List PyData)} {tgt : PyData → Bool → Sl → Option Sl} {ts : List Nat} {pos : Pos} {D : Ends}
/-- the state of a loop with the items ds left -/
theorem psd_for (hp : PassesOwn (model X.prog X.w) X.A X.env X.xe) (hc : X.calm = true) (hi : PI X tg iter (tI C W G gi)) (hg : PG X tg (tG C G ts tgt)) (hb : PSs X ss (tS C W G g))
    (hs : ∀ x, foldedSetIterable iter X.env x = pure x := by intro _; rfl) : PS X (.For tg iter ss [] pos) (tS C W G (sFor gi tgt g)) := PS.imp (ps_for hp hc hi hg hb hs) fun D σ0 H0 ⟨δ, E, p⟩ =>
  ⟨δ, E, (PostS.bindT p).imp fun ds δ1 H1 E1 X1 p1 J P ok pp => by
    refine ⟨fun i m σ H => m = ds.length - i ∧ i ≤ ds.length ∧ ∃ δ, ERel C G δ σ H ∧ PostS C W G δ σ H D (forD tgt g (ds.drop i) δ) ∧ P (WW G δ σ) H, ⟨_, rfl, Nat.zero_le _, δ1, E1, by rw [List.drop_zero]; exact p1, pp⟩, ?_⟩
    rintro i m σ H ⟨rfl, hi, δ2, E2, p2, q2⟩
    by_cases hlt : i < ds.length
    · have hd : ds[i]? = some ds[i] := List.getElem?_eq_getElem hlt
      obtain ⟨go, item⟩ := ok.go _ H i _ q2 hd
      refine .inr ⟨go, fun σ' H' => ∃ δ', ERel C G δ' σ' H' ∧ PostS C W G δ' σ' H' D (forD tgt g (ds.drop (i + 1)) δ') ∧ P (WW G δ' σ') H', fun σ' H' h => ⟨_, by omega, rfl, hlt, h⟩, fun x H' y => ?_⟩
      obtain ⟨hH, rx⟩ := item x H' y
      -- the heap may have one more tuple
      have e2 : ERel C G δ2 σ H' ∧ Ext δ2 σ H δ2 σ H' := by
        rcases hH with rfl | ⟨q, xs, hq, rfl⟩
        · exact ⟨E2, Ext.refl⟩
        · exact ⟨(E2.grow hq fun ys z => by cases z).less, Ext.grow hq⟩
      obtain ⟨E2', X2⟩ := e2
      rw [List.drop_eq_getElem_cons hlt] at p2
      refine ⟨δ2, H', δ2, ds[i], false, E2', Ext.refl, rx, (fun z => nomatch z), ?_⟩
      unfold forD at p2
      cases q : tgt ds[i] false δ2 with
      | none => rw [q] at p2; exact p2.elim
      | some δ3 =>
        rw [q] at p2
        intro σ3 H3 E3 X3 o3 i3
        have io3 := io_of o3 i3
        refine ⟨δ3, E3, ?_⟩
        have mv : ∀ {δ' : Sl} {σ' : St} {H' : Hp}, Ext δ3 σ3 H3 δ' σ' H' → P (WW G δ' σ') H' := fun x => by
          have y := (X2.trans X3).trans x
          exact ok.mv _ _ _ _ _ q2 y.kp (fun _ z => .inr z) y.ww
        have p3 : PostS C W G δ3 σ3 H3 D (match g δ3 with
          | .ok .nx δ2 => forD tgt g (ds.drop (i + 1)) δ2
          | .ok .ct δ2 => forD tgt g (ds.drop (i + 1)) δ2
          | .ok .bk δ2 => .ok .nx δ2
          | x => x) := PostS.later (X2.trans X3) io3 p2
        cases r : g δ3 with
        | ok f δ4 =>
          rw [r] at p3
          cases f with
          | nx => exact fun σ' H' E' X' I' => ⟨δ4, E', PostS.later X' I' p3, mv X'⟩
          | ct => exact fun σ' H' E' X' I' => ⟨δ4, E', PostS.later X' I' p3, mv X'⟩
          | bk => exact p3
          | rt d fr => exact p3
        | exc c xs δ4 => rw [r] at p3; exact p3
        | stk => rw [r] at p3; exact p3
    · have e : i = ds.length := by omega
      subst e
      refine .inl ⟨ok.stop _ H _ q2 (Nat.le_refl _), ?_⟩
      rw [List.drop_length] at p2
      exact p2 σ H E2 Ext.refl IoK.refl⟩
theorem psd_while {n : Nat} (hp : PassesOwn (model X.prog X.w) X.A X.env X.xe) (ht : PT X a (tT C W G gt)) (hb : PSs X ss (tS C W G g)) : PS X (.While a ss [] pos) (tS C W G (sWhile n gt g)) := PS.imp (ps_while hp ht hb) fun D σ0 H0 ⟨δ, E, p⟩ => by
  refine ⟨fun m σ H => ∃ δ, ERel C G δ σ H ∧ PostS C W G δ σ H D (whD gt g m δ), ⟨n, δ, E, p⟩, ?_⟩
  rintro m σ H ⟨δ1, E1, p1⟩
  cases m with
  | zero => exact p1.elim
  | succ m =>
    refine ⟨δ1, E1, (PostS.bindT p1).imp fun b δ2 H2 E2 X2 p2 => ?_⟩
    cases b with
    | false =>
      simp only [kT, Bool.false_eq_true, if_false]
      exact p2 σ H2 E2 Ext.refl IoK.refl
    | true =>
      simp only [kT, if_true]
      refine ⟨fun σ' H' => ∃ δ', ERel C G δ' σ' H' ∧ PostS C W G δ' σ' H' D (whD gt g m δ'), fun σ' H' h => ⟨m, Nat.lt_succ_self _, h⟩, δ2, E2, ?_⟩
      have p3 : PostS C W G δ2 σ H2 D (match g δ2 with
          | .ok .nx δ2 => whD gt g m δ2
          | .ok .ct δ2 => whD gt g m δ2
          | .ok .bk δ2 => .ok .nx δ2
          | x => x) := p2
      cases r : g δ2 with
      | ok f δ4 =>
        rw [r] at p3
        cases f with
        | nx => exact fun σ' H' E' X' I' => ⟨δ4, E', PostS.later X' I' p3⟩
        | ct => exact fun σ' H' E' X' I' => ⟨δ4, E', PostS.later X' I' p3⟩
        | bk => exact p3
        | rt d fr => exact p3
      | exc c xs δ4 => rw [r] at p3; exact p3
      | stk => rw [r] at p3; exact p3
end

def W0 : WX := fun _ _ _ _ => False
def wipeD (δ : Sl) : List Nat → Sl
  | [] => δ
  | v :: vs => (wipeD δ vs).set v none
def backD (δ0 : Sl) : List Nat → Sl → Sl
  | [], δ => δ
  | v :: vs, δ => match δ0[v]? with
    | some x => (backD δ0 vs δ).set v x
    | none => backD δ0 vs δ
/-- none of these slots has a list of its own -/
def noneOwn (δ : Sl) (vs : List Nat) : Bool := vs.all fun v => match δ[v]? with
  | some (some (true, _)) => false
  | _ => true
def lcD (vs : List Nat) (tgt : D → Bool → Sl → Option Sl) (gt : Sl → R Sl Bool) (ge : Sl → EV) : List D → List D → Sl → R Sl (List D)
  | [], acc, δ => .ok acc δ
  | d :: r, acc, δ => match tgt d false δ with
    | none => .stk
    | some δ1 => match gt δ1 with
      | .ok true δ2 => match ge δ2 with
        | .ok x δ3 => lcD vs tgt gt ge r (acc ++ [x.1]) (wipeD δ3 vs)
        | _ => .stk
      | .ok false δ2 => lcD vs tgt gt ge r acc (wipeD δ2 vs)
      | _ => .stk
def gLc (vs : List Nat) (gi : Sl → R Sl (List D)) (tgt : D → Bool → Sl → Option Sl) (gt : Sl → R Sl Bool) (ge : Sl → EV) : Sl → EV := fun δ => (gi δ).bind fun ds δ1 =>
  if noneOwn δ1 vs && decide (ds.length ≤ LINE) then match lcD vs tgt gt ge ds [] (wipeD δ1 vs) with
    | .ok acc δ2 => if noneOwn δ2 vs then .ok (.list acc, true) (backD δ1 vs δ2) else .stk
    | _ => .stk
  else .stk
def gYes : Sl → R Sl Bool := fun δ => .ok true δ
/-- an expression in a block: whatever the ghost -/
def tDx (C : Ct) (io : List Nat) (g : Sl → EV) : TE := fun σ H Q => ∃ G, G.io = io ∧ tD C W0 G g σ H Q
def tTx (C : Ct) (io : List Nat) (g : Sl → R Sl Bool) : TT := fun σ H Q => ∃ G, G.io = io ∧ tT C W0 G g σ H Q
def tGx (C : Ct) (io : List Nat) (ts : List Nat) (g : D → Bool → Sl → Option Sl) : TG := fun v σ H Q => ∃ G, G.io = io ∧ tG C G ts g v σ H Q
section
variable {C : Ct} {W : WX} {G : Gh} {δ δ1 : Sl} {σ σ1 : St} {H H1 : Hp}
theorem wipeD_len : ∀ vs, (wipeD δ vs).length = δ.length
  | [] => rfl
  | v :: vs => by unfold wipeD; rw [List.length_set, wipeD_len vs]
theorem wipeD_get {i : Nat} {x : Bool × D} : ∀ {vs : List Nat}, (wipeD δ vs)[i]? = some (some x) → δ[i]? = some (some x) ∧ i ∉ vs
  | [], h => ⟨h, by simp⟩
  | v :: vs, h => by
    unfold wipeD at h
    by_cases e : v = i
    · subst e
      by_cases hl : v < (wipeD δ vs).length
      · rw [List.getElem?_set_self hl] at h; cases h
      · rw [List.getElem?_eq_none (by simpa using hl)] at h; cases h
    · rw [List.getElem?_set_ne e] at h
      obtain ⟨h1, h2⟩ := wipeD_get h
      exact ⟨h1, by simp only [List.mem_cons, not_or]; exact ⟨fun z => e z.symm, h2⟩⟩
theorem wipe_keep {i : Nat} : ∀ {vs : List Nat}, i ∉ vs → (wipe σ vs)[i]? = σ[i]?
  | [], _ => rfl
  | v :: vs, h => by
    simp only [List.mem_cons, not_or] at h
    unfold wipe
    rw [List.getElem?_set_ne (fun e => h.1 e.symm), wipe_keep h.2]
theorem wipe_gone {i : Nat} : ∀ {vs : List Nat}, i ∈ vs → i < σ.length → (wipe σ vs)[i]? = some none
  | v :: vs, h, hl => by
    unfold wipe
    by_cases e : v = i
    · subst e
      exact List.getElem?_set_self (by rw [wipe_length]; exact hl)
    · rw [List.getElem?_set_ne e]
      exact wipe_gone ((List.mem_cons.mp h).resolve_left fun z => e z.symm) hl
theorem wipe_off {vs : List Nat} (h : OffT vs σ σ1) : wipe σ1 vs = wipe σ vs := by
  refine List.ext_getElem? fun i => ?_
  by_cases hi : i ∈ vs
  · by_cases hl : i < σ.length
    · rw [wipe_gone hi hl, wipe_gone hi (by rw [h.1]; exact hl)]
    · rw [List.getElem?_eq_none (by rw [wipe_length, h.1]; omega), List.getElem?_eq_none (by rw [wipe_length]; omega)]
  · rw [wipe_keep hi, wipe_keep hi, h.2 i hi]
theorem own_wipe {vs : List Nat} : ∀ a, Own (wipeD δ vs) (wipe σ vs) a → Own δ σ a := fun a ⟨i, d, h1, h2⟩ => ⟨i, d, (wipeD_get h1).1, (wipe_some h2).1⟩
theorem noneOwn_get {vs : List Nat} (h : noneOwn δ vs = true) {i : Nat} {d : D} (hi : i ∈ vs) : δ[i]? ≠ some (some (true, d)) := fun e => by
  have z := List.all_eq_true.mp h i hi
  rw [e] at z
  cases z
theorem own_unwipe {vs : List Nat} (h : noneOwn δ vs = true) : ∀ a, Own δ σ a → ∃ i d, i ∉ vs ∧ δ[i]? = some (some (true, d)) ∧ σ[i]? = some (some (.ref a)) := fun a ⟨i, d, h1, h2⟩ => ⟨i, d, fun z => noneOwn_get h z h1, h1, h2⟩
theorem wipeD_keep {i : Nat} : ∀ {vs : List Nat}, i ∉ vs → (wipeD δ vs)[i]? = δ[i]?
  | [], _ => rfl
  | v :: vs, h => by
    simp only [List.mem_cons, not_or] at h
    unfold wipeD
    rw [List.getElem?_set_ne (fun e => h.1 e.symm), wipeD_keep h.2]
/-- into the block -/
theorem ERel.wiped {vs : List Nat} (E : ERel C G δ σ H) : ERel C G (wipeD δ vs) (wipe σ vs) H := by
  have w : ∀ b, WW G (wipeD δ vs) (wipe σ vs) b → WW G δ σ b := fun b z => z.elim .inl fun q => .inr (own_wipe b q)
  refine ⟨by rw [wipeD_len, wipe_length]; exact E.len, fun i d h => ?_, fun i d h => ?_, fun i j a di dj g1 g2 g3 g4 => E.inj i j a di dj (wipeD_get g1).1 (wipeD_get g2).1 (wipe_some g3).1 (wipe_some g4).1, E.fl, E.ol, E.sz⟩
  · obtain ⟨h1, h2⟩ := wipeD_get h
    obtain ⟨v, r1, r2⟩ := E.sh i d h1
    exact ⟨v, by rw [wipe_keep h2]; exact r1, r2.weak w⟩
  · obtain ⟨h1, h2⟩ := wipeD_get h
    obtain ⟨b, ys, es, r1, r2, r3, r4, r5⟩ := E.ow i d h1
    exact ⟨b, ys, es, by rw [wipe_keep h2]; exact r1, r2, r3, r4.weak w, r5⟩
theorem Ext.wiped {vs : List Nat} (h : noneOwn δ vs = true) : Ext δ σ H (wipeD δ vs) (wipe σ vs) H ∧ Ext (wipeD δ vs) (wipe σ vs) H δ σ H := by
  refine ⟨⟨Kept.refl, fun _ z => z, fun a z => .inl (own_wipe a z)⟩, ⟨Kept.refl, fun _ z => z, fun a z => .inl ?_⟩⟩
  obtain ⟨i, d, h1, h2, h3⟩ := own_unwipe h a z
  exact ⟨i, d, by rw [wipeD_keep h1]; exact h2, by rw [wipe_keep h1]; exact h3⟩
theorem backD_len {δ0 : Sl} : ∀ vs, (backD δ0 vs δ).length = δ.length
  | [] => rfl
  | v :: vs => by
    unfold backD
    split
    · rw [List.length_set, backD_len vs]
    · exact backD_len vs
theorem backD_keep {δ0 : Sl} {i : Nat} : ∀ {vs : List Nat}, i ∉ vs → (backD δ0 vs δ)[i]? = δ[i]?
  | [], _ => rfl
  | v :: vs, h => by
    simp only [List.mem_cons, not_or] at h
    unfold backD
    split
    · rw [List.getElem?_set_ne (fun e => h.1 e.symm), backD_keep h.2]
    · exact backD_keep h.2
theorem backD_get {δ0 : Sl} (hl : δ.length = δ0.length) {i : Nat} : ∀ {vs : List Nat}, i ∈ vs → (backD δ0 vs δ)[i]? = δ0[i]?
  | v :: vs, h => by
    unfold backD
    by_cases e : v = i
    · subst e
      split
      · rename_i x hx
        rw [List.getElem?_set_self (by rw [backD_len, hl]; exact (List.getElem?_eq_some_iff.mp hx).1), hx]
      · rename_i hx
        rw [hx]
        have z : δ0.length ≤ v := List.getElem?_eq_none_iff.mp hx
        exact List.getElem?_eq_none (by rw [backD_len, hl]; exact z)
    · have hi := (List.mem_cons.mp h).resolve_left fun z => e z.symm
      split
      · rw [List.getElem?_set_ne e]; exact backD_get hl hi
      · exact backD_get hl hi
/-- out of the block -/
theorem ERel.unwiped {δ0 : Sl} {H0 : Hp} {vs : List Nat} {G' : Gh} (E0 : ERel C G δ0 σ H0) (h0 : noneOwn δ0 vs = true) (E : ERel C G' δ (wipe σ vs) H) (h1 : noneOwn δ vs = true) (hG : ∀ a, G.F a → G'.F a) (hio : G'.io = G.io) (hol : ∀ a, G.Old a → G'.Old a)
    (X : Ext δ0 σ H0 δ (wipe σ vs) H) (fl : ∀ a, G'.F a → G.F a ∨ H0 a = none) (ol : ∀ a, G'.Old a → H a ≠ none) : ERel C G' (backD δ0 vs δ) σ H ∧ (∀ a, Own (backD δ0 vs δ) σ a → Own δ (wipe σ vs) a) := by
  have hl : δ.length = δ0.length := by rw [E.len, wipe_length, E0.len]
  have o : ∀ a, Own (backD δ0 vs δ) σ a → Own δ (wipe σ vs) a := fun a ⟨i, d, g1, g2⟩ => by
    by_cases hi : i ∈ vs
    · rw [backD_get hl hi] at g1
      exact absurd g1 (noneOwn_get h0 hi)
    · rw [backD_keep hi] at g1
      exact ⟨i, d, g1, by rw [wipe_keep hi]; exact g2⟩
  have w : ∀ b, WW G' (backD δ0 vs δ) σ b → WW G' δ (wipe σ vs) b := fun b z => z.elim .inl fun q => .inr (o b q)
  refine ⟨⟨by rw [backD_len, hl]; exact E0.len, fun i d g => ?_, fun i d g => ?_, fun i j a di dj g1 g2 g3 g4 => ?_, E.fl, E.ol, E.sz⟩, o⟩
  · by_cases hi : i ∈ vs
    · rw [backD_get hl hi] at g
      obtain ⟨v, r1, r2⟩ := E0.sh i d g
      refine ⟨v, r1, r2.move X.kp (fun _ z => .inr z) fun a z => ?_⟩
      rcases z with z | z
      · exact (fl a z).imp .inl id
      · exact (X.own a (o a z)).imp .inr id
    · rw [backD_keep hi] at g
      obtain ⟨v, r1, r2⟩ := E.sh i d g
      exact ⟨v, (wipe_some r1).1, r2.weak w⟩
  · by_cases hi : i ∈ vs
    · rw [backD_get hl hi] at g
      exact absurd g (noneOwn_get h0 hi)
    · rw [backD_keep hi] at g
      obtain ⟨b, ys, es, r1, r2, r3, r4, r5⟩ := E.ow i d g
      exact ⟨b, ys, es, (wipe_some r1).1, r2, r3, r4.weak w, r5⟩
  · have key : ∀ {i d}, (backD δ0 vs δ)[i]? = some (some (true, d)) → i ∉ vs ∧ δ[i]? = some (some (true, d)) := fun {i d} g => by
      by_cases hi : i ∈ vs
      · rw [backD_get hl hi] at g
        exact absurd g (noneOwn_get h0 hi)
      · rw [backD_keep hi] at g
        exact ⟨hi, g⟩
    obtain ⟨n1, q1⟩ := key g1
    obtain ⟨n2, q2⟩ := key g2
    exact E.inj i j a di dj q1 q2 (by rw [wipe_keep n1]; exact g3) (by rw [wipe_keep n2]; exact g4)
end

section
variable {C : Ct} {W : WX} {G : Gh} {δ δ1 : Sl} {σ σ1 : St} {H H1 : Hp}
/-- a list that no slot may touch is changed -/
theorem ERel.updF {p : Addr} {xs ys : List V} (E : ERel C G δ σ H) (hF : G.F p) (hp : H p = some (.lst xs)) (hl : ys.length ≤ sizeLine) : ERel C G δ σ (upd H p (.lst ys)) := by
  have k : Kept (fun a => a = p) H (upd H p (.lst ys)) := fun a o h n => by
    by_cases e : a = p
    · rw [e, hp] at h
      cases h
      exact absurd rfl (n e xs)
    · rw [upd_ne e]; exact h
  have hO : ∀ a, a = p → WW G δ σ a := fun a e => by rw [e]; exact .inl hF
  refine ⟨E.len, fun i d e => ?_, fun i d e => ?_, E.inj, fun a z => ?_, fun a z => ?_, fun a zs z => ?_⟩
  · obtain ⟨v, h1, h2⟩ := E.sh i d e
    exact ⟨v, h1, h2.move k hO fun a z => .inl z⟩
  · obtain ⟨a, zs, ds, h1, h2, h3, h4, h5, h6⟩ := E.ow i d e
    exact ⟨a, zs, ds, h1, h2, by rw [upd_ne (fun e => h5 (by rw [e]; exact hF))]; exact h3, h4.move k hO fun a z => .inl z, h5, h6⟩
  · by_cases e : a = p
    · rw [e, upd_same]; exact fun z => nomatch z
    · rw [upd_ne e]; exact E.fl a z
  · by_cases e : a = p
    · rw [e, upd_same]; exact fun z => nomatch z
    · rw [upd_ne e]; exact E.ol a z
  · by_cases e : a = p
    · rw [e, upd_same] at z; cases z; exact hl
    · rw [upd_ne e] at z; exact E.sz a zs z
theorem ERel.notOwn {p : Addr} (E : ERel C G δ σ H) (hF : G.F p) : ¬ Own δ σ p := fun ⟨i, d, h1, h2⟩ => by
  obtain ⟨a, _, _, g1, _, _, _, g2, _⟩ := E.ow i d h1
  rw [h2] at g1; cases g1
  exact g2 hF
theorem wipe_wipe {vs : List Nat} : wipe (wipe σ vs) vs = wipe σ vs := wipe_off ⟨wipe_length σ vs, fun _ h => wipe_keep h⟩

theorem tLc_ok {io vs ts : List Nat} {gi : Sl → R Sl (List PyData)} {tgt : PyData → Bool → Sl → Option Sl} {gt : Sl → R Sl Bool} {ge : Sl → EV} (hio : G.io = io) (hts : ∀ i ∈ ts, i ∈ vs) (Q : VK) (h : tD C W G (gLc vs gi tgt gt ge) σ H Q) :
    tLc (tI C W G gi) (tGx C io ts tgt) (tTx C io gt) (tDx C io ge) vs σ H Q := by
  obtain ⟨δ, E, p⟩ := h
  refine ⟨δ, E, (Post.bind p).imp fun ds δ1 H1 E1 X1 p0 J P ok pp D hD => ?_⟩
  have p1 := p0.at X1
  split at p1
  case isFalse => exact (show False from p1).elim
  case isTrue hcond =>
  rw [Bool.and_eq_true] at hcond
  have hno := hcond.1
  have hlen : ds.length ≤ LINE := of_decide_eq_true hcond.2
  cases hf : lcD vs tgt gt ge ds [] (wipeD δ1 vs) with
  | exc c xs d => rw [hf] at p1; exact (show False from p1).elim
  | stk => rw [hf] at p1; exact (show False from p1).elim
  | ok accF δF =>
  rw [hf] at p1
  have E1' : ERel C (G.plus D) (wipeD δ1 vs) (wipe σ vs) (upd H1 D (.lst [])) := (E1.grow hD fun ys e => by cases e; exact Nat.zero_le _).wiped
  have Dplus : (G.plus D).F D := .inr rfl
  have X0 : Ext (wipeD δ1 vs) (wipe σ vs) H1 (wipeD δ1 vs) (wipe σ vs) (upd H1 D (.lst [])) := Ext.grow hD
  have pp' : P (WW (G.plus D) (wipeD δ1 vs) (wipe σ vs)) (upd H1 D (.lst [])) := ok.mv _ _ (fun _ => False) _ _ pp (fun a o h _ => by rw [upd_ne (ne_of_none h hD)]; exact h) (fun _ (z : False) => z.elim) fun a z => by
    rcases z with (z | z) | z
    · exact .inl (.inl z)
    · exact .inr (by rw [z]; exact hD)
    · exact .inl (.inr (own_wipe a z))
  refine ⟨fun i m H => m = ds.length - i ∧ i ≤ ds.length ∧ ∃ δ acc accV, ERel C (G.plus D) δ (wipe σ vs) H ∧ H D = some (.lst accV) ∧ RepL C (WW (G.plus D) δ (wipe σ vs)) H accV acc ∧ accV.length ≤ i ∧
      lcD vs tgt gt ge (ds.drop i) acc δ = .ok accF δF ∧ P (WW (G.plus D) δ (wipe σ vs)) H ∧ Ext (wipeD δ1 vs) (wipe σ vs) H1 δ (wipe σ vs) H, ⟨_, rfl, Nat.zero_le _, wipeD δ1 vs, [], [], E1', upd_same, .nil, Nat.le_refl _, by rw [List.drop_zero]; exact hf, pp', X0⟩, ?_⟩
  rintro i m H2 ⟨rfl, hi, δ2, acc, accV, E2, hD2, r2, l2, e2, q2, X2⟩
  by_cases hlt : i < ds.length
  · have hd : ds[i]? = some ds[i] := List.getElem?_eq_getElem hlt
    obtain ⟨go, item⟩ := ok.go _ H2 i _ q2 hd
    refine .inr ⟨go, fun H' => ∃ δ acc accV, ERel C (G.plus D) δ (wipe σ vs) H' ∧ H' D = some (.lst accV) ∧ RepL C (WW (G.plus D) δ (wipe σ vs)) H' accV acc ∧ accV.length ≤ i + 1 ∧
      lcD vs tgt gt ge (ds.drop (i + 1)) acc δ = .ok accF δF ∧ P (WW (G.plus D) δ (wipe σ vs)) H' ∧ Ext (wipeD δ1 vs) (wipe σ vs) H1 δ (wipe σ vs) H', fun H' h => ⟨_, by omega, rfl, hlt, h⟩, fun x H3 y => ?_⟩
    obtain ⟨hH, rx⟩ := item x H3 y
    have e3 : ERel C (G.plus D) δ2 (wipe σ vs) H3 ∧ Ext δ2 (wipe σ vs) H2 δ2 (wipe σ vs) H3 := by
      rcases hH with rfl | ⟨q, xs, hq, rfl⟩
      · exact ⟨E2, Ext.refl⟩
      · exact ⟨(E2.grow hq fun ys z => by cases z).less, Ext.grow hq⟩
    obtain ⟨E3, X3⟩ := e3
    rw [List.drop_eq_getElem_cons hlt] at e2
    unfold lcD at e2
    refine ⟨G.plus D, hio, δ2, H3, δ2, ds[i], false, E3, Ext.refl, rx, (fun z => nomatch z), ?_⟩
    cases q : tgt ds[i] false δ2 with
    | none => rw [q] at e2; cases e2
    | some δ3 =>
    rw [q] at e2
    try dsimp only at e2
    intro σ4 H4 E4 X4 o4 i4
    have hw4 : wipe σ4 vs = wipe σ vs := by rw [wipe_off (o4.mono hts), wipe_wipe]
    refine ⟨hw4, G.plus D, hio, δ3, E4, ?_⟩
    cases q5 : gt δ3 with
    | exc c xs d => rw [q5] at e2; cases e2
    | stk => rw [q5] at e2; cases e2
    | ok b δ5 =>
    rw [q5] at e2
    try dsimp only at e2
    intro H5 E5 X5
    -- the turn's end
    have fin : ∀ {δ6 : Sl} {H6 : Hp} {acc' : List PyData} {accV' : List V}, ERel C (G.plus D) δ6 σ4 H6 → P (WW (G.plus D) δ6 σ4) H6 → Ext (wipeD δ1 vs) (wipe σ vs) H1 δ6 σ4 H6 → H6 D = some (.lst accV') → RepL C (WW (G.plus D) δ6 σ4) H6 accV' acc' → accV'.length ≤ i + 1 → lcD vs tgt gt ge (ds.drop (i + 1)) acc' (wipeD δ6 vs) = .ok accF δF →
        ∃ δ acc accV, ERel C (G.plus D) δ (wipe σ vs) H6 ∧ H6 D = some (.lst accV) ∧ RepL C (WW (G.plus D) δ (wipe σ vs)) H6 accV acc ∧ accV.length ≤ i + 1 ∧
        lcD vs tgt gt ge (ds.drop (i + 1)) acc δ = .ok accF δF ∧ P (WW (G.plus D) δ (wipe σ vs)) H6 ∧ Ext (wipeD δ1 vs) (wipe σ vs) H1 δ (wipe σ vs) H6 := fun {δ6 H6 acc' accV'} E6 P6 X6 hD6 r6 l6 e6 => by
      have Xw : Ext δ6 σ4 H6 (wipeD δ6 vs) (wipe σ vs) H6 := ⟨Kept.refl, fun _ z => z, fun a z => .inl (own_wipe a (by rw [hw4]; exact z))⟩
      have E7 : ERel C (G.plus D) (wipeD δ6 vs) (wipe σ vs) H6 := hw4 ▸ E6.wiped
      exact ⟨wipeD δ6 vs, acc', accV', E7, hD6, Xw.repL r6, l6, e6, ok.mv _ _ _ _ _ P6 Xw.kp (fun _ z => .inr z) Xw.ww, X6.trans Xw⟩
    have X25 := (X3.trans X4).trans X5
    have keepD : ∀ {δ6 : Sl} {σ6 : St} {H6 : Hp}, Ext δ2 (wipe σ vs) H2 δ6 σ6 H6 → H6 D = some (.lst accV) := fun x => x.kp D _ hD2 fun z => absurd z (E2.notOwn Dplus)
    have keepP : ∀ {δ6 : Sl} {σ6 : St} {H6 : Hp}, Ext δ2 (wipe σ vs) H2 δ6 σ6 H6 → P (WW (G.plus D) δ6 σ6) H6 := fun x => ok.mv _ _ _ _ _ q2 x.kp (fun _ z => .inr z) x.ww
    cases b with
    | false =>
      simp only [kT, Bool.false_eq_true, if_false]
      exact fin E5 (keepP X25) (X2.trans X25) (keepD X25) (X25.repL r2) (Nat.le_succ_of_le l2) e2
    | true =>
      simp only [kT, if_true]
      refine ⟨G.plus D, hio, δ5, E5, ?_⟩
      try dsimp only at e2
      cases q6 : ge δ5 with
      | exc c xs d => rw [q6] at e2; cases e2
      | stk => rw [q6] at e2; cases e2
      | ok z δ6 =>
      rw [q6] at e2
      try dsimp only at e2
      intro H6 E6 X6 v rv _
      have X26 := X25.trans X6
      have hD6 := keepD X26
      have hz : accV.length < sizeLine := by rw [← line_eq]; exact Nat.lt_of_le_of_lt l2 (Nat.lt_of_lt_of_le hlt hlen)
      refine ⟨accV, hD6, hz, ?_⟩
      have hl7 : (accV ++ [v]).length ≤ sizeLine := by rw [List.length_append]; exact hz
      have E7 := E6.updF Dplus hD6 hl7
      have kD : Kept (fun a => a = D) H6 (upd H6 D (.lst (accV ++ [v]))) := fun a o h n => by
        by_cases e : a = D
        · rw [e, hD6] at h
          cases h
          exact absurd rfl (n e accV)
        · rw [upd_ne e]; exact h
      have hO : ∀ a, a = D → WW (G.plus D) δ6 σ4 a := fun a e => by rw [e]; exact .inl Dplus
      have Y := X2.trans X26
      refine fin E7 (ok.mv _ _ _ _ _ (keepP X26) kD hO fun a z => .inl z) ⟨fun a o h n => ?_, fun a n => ?_, Y.own⟩ upd_same ((((X26.repL r2).append (RepL.one rv))).move kD hO fun a z => .inl z) (by rw [List.length_append]; exact Nat.succ_le_succ l2) e2
      · rw [upd_ne (ne_of_none h hD)]
        exact Y.kp a o h n
      · by_cases e : a = D
        · rw [e, upd_same]; exact fun z => nomatch z
        · rw [upd_ne e]; exact Y.th a n
  · have e : i = ds.length := by omega
    subst e
    refine .inl ⟨ok.stop _ H2 _ q2 (Nat.le_refl _), ?_⟩
    rw [List.drop_length] at e2
    unfold lcD at e2
    cases e2
    dsimp only at p1
    split at p1
    · rename_i hno2
      have X12 : Ext δ1 σ H1 δF (wipe σ vs) H2 := (Ext.wiped hno).1.trans X2
      obtain ⟨E3, o3⟩ := ERel.unwiped E1 hno E2 hno2 (fun a z => .inl z) rfl (fun _ z => z) X12 (fun a (z : G.F a ∨ a = D) => z.imp id fun q => by rw [q]; exact hD) E2.ol
      have X13 : Ext δ1 σ H1 (backD δ1 vs δF) σ H2 := ⟨X12.kp, X12.th, fun a z => X12.own a (o3 a z)⟩
      have w3 : ∀ a, WW (G.plus D) (backD δ1 vs δF) σ a → WW (G.plus D) δF (wipe σ vs) a := fun a z => z.elim .inl fun q => .inr (o3 a q)
      have r3 : RepL C (WW (G.plus D) (backD δ1 vs δF) σ) H2 accV accF := r2.weak w3
      have f : FreshV C G (backD δ1 vs δF) σ H2 (.ref D) (.list accF) := ⟨D, accV, accF, rfl, rfl, fun z => E1.ol D z hD, fun z => E1.fl D z hD, hD2, r3, E3⟩
      exact p1 H2 E3.less X13 (.ref D) f.rep fun _ => ⟨f, fun a z => by cases z; exact .inl hD⟩
    · exact (show False from p1).elim
end
section
variable {C : Ct} {W : WX} {G : Gh} {X : Cx} {io ts : List Nat} {gi : Sl → R Sl (List PyData)} {tgt : PyData → Bool → Sl → Option Sl} {gt : Sl → R Sl Bool} {ge : Sl → EV}
theorem ptsd_nil : PTs X [] (tT C W G gYes) := ⟨fun pins s σ H Q I ⟨δ, E, p⟩ => pts_nil.run pins s σ H Q I (p H E Ext.refl)⟩
theorem ptsd_one {c : Expr} (h : PT X c (tT C W G gt)) : PTs X [c] (tT C W G gt) := pts_one h
theorem pd_lc {elt tg iter : Expr} {ifs : List Expr} {scope : Scope} {own : List (Str × Nat)} {pos : Pos} (hio : G.io = io) (hts : ∀ i ∈ ts, i ∈ own.map (·.2)) (hc : X.calm = true) (hN : X.N.Nodup) (hi : PI X tg iter (tI C W G gi)) (ok : BlkOk X.N X.env.scope scope own)
    (hg : ∀ (s : Shared) (H : Hp) (Ca : Addr) (cl : List (Str × Addr)) (fp : List Addr) (G' : Gh), G'.io = io → PG (X.blk s H scope (compEnvC scope cl Ca X.env) fp) tg (tG C G' ts tgt))
    (ht : ∀ (s : Shared) (H : Hp) (Ca : Addr) (cl : List (Str × Addr)) (fp : List Addr) (G' : Gh), G'.io = io → PTs (X.blk s H scope (compEnvC scope cl Ca X.env) fp) ifs (tT C W0 G' gt))
    (he : ∀ (s : Shared) (H : Hp) (Ca : Addr) (cl : List (Str × Addr)) (fp : List Addr) (G' : Gh), G'.io = io → PE (X.blk s H scope (compEnvC scope cl Ca X.env) fp) elt (tD C W0 G' ge)) (hs : ∀ x, foldedSetIterable iter X.env x = pure x := by intro _; rfl) :
    PE X (.ListComp elt [⟨tg, iter, ifs, 0⟩] scope pos) (tD C W G (gLc (own.map (·.2)) gi tgt gt ge)) :=
  PE.imp (pe_lc (g := tGx C io ts tgt) (tt := tTx C io gt) (te := tDx C io ge) hc hN hi ok (fun s H Ca cl fp => ⟨fun pins s' σ H' v u Q I r ⟨G', h1, h2⟩ => (hg s H Ca cl fp G' h1).run pins s' σ H' v u Q I r h2⟩)
    (fun s H Ca cl fp => ⟨fun pins s' σ H' Q I ⟨G', h1, h2⟩ => (ht s H Ca cl fp G' h1).run pins s' σ H' Q I h2⟩) (fun s H Ca cl fp => ⟨fun pins s' σ H' Q I ⟨G', h1, h2⟩ => (he s H Ca cl fp G' h1).run pins s' σ H' Q I h2⟩) hs) fun σ H Q h => tLc_ok hio hts Q h
/-- name = [..] -/
theorem psd_setLc {i : Nat} {y : Str} {py : Pos} {elt tg iter : Expr} {ifs : List Expr} {scope : Scope} {own : List (Str × Nat)} {pos spos : Pos} (hio : G.io = io) (hts : ∀ i ∈ ts, i ∈ own.map (·.2)) (hc : X.calm = true) (hN : X.N.Nodup) (hy : X.N[i]? = some y) (hyl : X.env.scope.names.lookup y = some .local)
    (hsw : swapsWith (.ListComp elt [⟨tg, iter, ifs, 0⟩] scope pos) (some (.Name y py)) spos.line X.env = pure true) (hi : PI X tg iter (tI C W G gi)) (ok : BlkOk X.N X.env.scope scope own)
    (hg : ∀ (s : Shared) (H : Hp) (Ca : Addr) (cl : List (Str × Addr)) (fp : List Addr) (G' : Gh), G'.io = io → PG (X.blk s H scope (compEnvC scope cl Ca X.env) fp) tg (tG C G' ts tgt))
    (ht : ∀ (s : Shared) (H : Hp) (Ca : Addr) (cl : List (Str × Addr)) (fp : List Addr) (G' : Gh), G'.io = io → PTs (X.blk s H scope (compEnvC scope cl Ca X.env) fp) ifs (tT C W0 G' gt))
    (he : ∀ (s : Shared) (H : Hp) (Ca : Addr) (cl : List (Str × Addr)) (fp : List Addr) (G' : Gh), G'.io = io → PE (X.blk s H scope (compEnvC scope cl Ca X.env) fp) elt (tD C W0 G' ge)) (hs : ∀ x, foldedSetIterable iter X.env x = pure x := by intro _; rfl) :
    PS X (.Assign [.Name y py] (.ListComp elt [⟨tg, iter, ifs, 0⟩] scope pos) spos) (tS C W G (sAsg (gLc (own.map (·.2)) gi tgt gt ge) (gtName G.io i))) :=
  PS.imp (ps_setLc (g := tGx C io ts tgt) (tt := tTx C io gt) (te := tDx C io ge) hc hN hy hyl hsw hi ok (fun s H Ca cl fp => ⟨fun pins s' σ H' v u Q I r ⟨G', h1, h2⟩ => (hg s H Ca cl fp G' h1).run pins s' σ H' v u Q I r h2⟩)
    (fun s H Ca cl fp => ⟨fun pins s' σ H' Q I ⟨G', h1, h2⟩ => (ht s H Ca cl fp G' h1).run pins s' σ H' Q I h2⟩) (fun s H Ca cl fp => ⟨fun pins s' σ H' Q I ⟨G', h1, h2⟩ => (he s H Ca cl fp G' h1).run pins s' σ H' Q I h2⟩) hs) fun D σ H h => by
    refine tLc_ok hio hts _ ?_
    obtain ⟨δ, E, p⟩ := tAsg_ok (ts := [i]) D σ H h
    refine ⟨δ, E, p.imp fun y δ1 H1 E1 X1 k v rv f => ?_⟩
    obtain ⟨δ0, H0, δ2, d, fr, E2, X0, r, f2, k2⟩ := k v rv f
    show D.nx (σ.set i (some v)) H1
    unfold gtName setSlot at k2
    split at k2
    · exact k2.elim
    · rename_i hn
      rw [Bool.or_eq_true, not_or] at hn
      have hi' : i < δ2.length := by
        have := hn.2
        simp at this
        exact this
      have hio : i ∉ G.io := by simpa using hn.1
      obtain ⟨E', o⟩ := E2.store hi' hio r fun z => (f2 z).1
      refine k2 _ _ E' ⟨X0.kp, X0.th, fun a z => ?_⟩ OffT.set fun j hj => .inl (by simp; exact fun e => hio (e ▸ hj))
      rcases o a z with q | ⟨q1, q2⟩
      · exact X0.own a q
      · exact ((f2 q1).2 a q2).symm
end
end DL

namespace DL
open PySem PySem.Spec L2
open PyProof.Rows hiding St

section
variable {C : Ct} {W : WX} {G : Gh} {δ δ1 : Sl} {σ : St} {H H1 : Hp} {X : Cx} {a b e : Expr} {ga gb : Sl → EV} {pos : Pos}
theorem own_upd {i : Nat} {d : PyData} {e : PyData} (hi : δ[i]? = some (some (true, d))) : ∀ b, Own (δ.set i (some (true, e))) σ b ↔ Own δ σ b := fun b => by
  have hl : i < δ.length := (List.getElem?_eq_some_iff.mp hi).1
  constructor
  · rintro ⟨j, d', h1, h2⟩
    by_cases q : i = j
    · subst q; exact ⟨i, d, hi, h2⟩
    · rw [List.getElem?_set_ne q] at h1; exact ⟨j, d', h1, h2⟩
  · rintro ⟨j, d', h1, h2⟩
    by_cases q : i = j
    · subst q; exact ⟨i, e, List.getElem?_set_self hl, h2⟩
    · exact ⟨j, d', by rw [List.getElem?_set_ne q]; exact h1, h2⟩
theorem ERel.updOwn {i : Nat} {p : Addr} {xs ys : List V} {ds es : List PyData} (E : ERel C G δ σ H) (hi : δ[i]? = some (some (true, .list ds))) (hs : σ[i]? = some (some (.ref p))) (hp : H p = some (.lst xs)) (hl : ys.length ≤ sizeLine) (r : RepL C (WW G δ σ) H ys es) :
    ERel C G (δ.set i (some (true, .list es))) σ (upd H p (.lst ys)) ∧ Ext δ σ H (δ.set i (some (true, .list es))) σ (upd H p (.lst ys)) := by
  have hil : i < δ.length := (List.getElem?_eq_some_iff.mp hi).1
  have o := fun b => own_upd (σ := σ) (e := PyData.list es) hi b
  have ww : ∀ b, WW G (δ.set i (some (true, PyData.list es))) σ b → WW G δ σ b := fun b z => z.elim .inl fun q => .inr ((o b).mp q)
  have op : Own δ σ p := ⟨i, _, hi, hs⟩
  have k : Kept (fun a => a = p) H (upd H p (.lst ys)) := fun a o h n => by
    by_cases e : a = p
    · rw [e, hp] at h
      cases h
      exact absurd rfl (n e xs)
    · rw [upd_ne e]; exact h
  have hO : ∀ a, a = p → WW G δ σ a := fun a e => by rw [e]; exact .inr op
  obtain ⟨_, _, _, q1, _, _, _, q2, q3⟩ := E.ow i _ hi
  rw [hs] at q1; cases q1
  refine ⟨⟨by rw [List.length_set]; exact E.len, fun j d h => ?_, fun j d h => ?_, fun j j' a dj dk g1 g2 g3 g4 => ?_, fun a z => ?_, fun a z => ?_, fun a zs z => ?_⟩, ⟨fun a o h n => k a o h fun e => n (by rw [e]; exact op), fun a z => ?_, fun a z => .inl ((o a).mp z)⟩⟩
  · by_cases q : i = j
    · subst q
      rw [List.getElem?_set_self hil] at h; cases h
    · rw [List.getElem?_set_ne q] at h
      obtain ⟨v, h1, h2⟩ := E.sh j d h
      exact ⟨v, h1, h2.move k hO fun a z => .inl (ww a z)⟩
  · by_cases q : i = j
    · subst q
      rw [List.getElem?_set_self hil] at h; cases h
      exact ⟨p, ys, es, hs, rfl, upd_same, r.move k hO fun a z => .inl (ww a z), q2, q3⟩
    · rw [List.getElem?_set_ne q] at h
      obtain ⟨b, zs, ds', h1, h2, h3, h4, h5⟩ := E.ow j d h
      have nb : b ≠ p := fun e => q (E.inj i j p _ _ hi h hs (by rw [← e]; exact h1))
      exact ⟨b, zs, ds', h1, h2, by rw [upd_ne nb]; exact h3, h4.move k hO fun a z => .inl (ww a z), h5⟩
  · have key : ∀ {j d}, (δ.set i (some (true, PyData.list es)))[j]? = some (some (true, d)) → ∃ d', δ[j]? = some (some (true, d')) := fun {j d} g => by
      by_cases q : i = j
      · subst q; exact ⟨_, hi⟩
      · rw [List.getElem?_set_ne q] at g; exact ⟨d, g⟩
    obtain ⟨d1, z1⟩ := key g1
    obtain ⟨d2, z2⟩ := key g2
    exact E.inj j j' a d1 d2 z1 z2 g3 g4
  · by_cases e : a = p
    · rw [e, upd_same]; exact fun z => nomatch z
    · rw [upd_ne e]; exact E.fl a z
  · by_cases e : a = p
    · rw [e, upd_same]; exact fun z => nomatch z
    · rw [upd_ne e]; exact E.ol a z
  · by_cases e : a = p
    · rw [e, upd_same] at z; cases z; exact hl
    · rw [upd_ne e] at z; exact E.sz a zs z
  · by_cases e : a = p
    · rw [e, upd_same]; exact fun z => nomatch z
    · rw [upd_ne e]; exact z
def sAppend (i : Nat) (ga : Sl → EV) : Sl → SV := fun δ => match δ[i]? with
  | some (some (true, .list _)) => (ga δ).bind fun x δ1 => match δ1[i]? with
    | some (some (true, .list ds)) => if ds.length < LINE then .ok .nx (δ1.set i (some (true, .list (ds ++ [x.1])))) else .stk
    | _ => .stk
  | _ => .stk
theorem psd_append {i : Nat} {x : Str} {apos pos' pos2 : Pos} (ha : PE X a (tD C W G ga)) (hx : PE X (.Name x pos') (tVar i)) (hp : PE X (.Call (.Attribute (.Name x pos') "append" apos) [a] [] pos) (tBM X.K "list" rAppend (tVar i) (tCons (tD C W G ga) tNil)))
    (hs : swapsWith (.Call (.Attribute (.Name x pos') "append" apos) [a] [] pos) none pos2.line X.env = pure false := by rfl) : PS X (.Expr (.Call (.Attribute (.Name x pos') "append" apos) [a] [] pos) pos2) (tS C W G (sAppend i ga)) :=
  PS.imp (ps_expr hp hs) fun D σ H ⟨δ, E, p⟩ => by
    unfold sAppend at p
    split at p
    · rename_i ds0 h0
      obtain ⟨l, xs0, ds, h1, h2, h3, h4, _⟩ := E.ow i _ h0
      refine ⟨_, h1, .inl ⟨rfl, _, SqL.of h3⟩, δ, E, (PostS.bindE p).imp fun y δ1 H1 E1 X1 p1 v rv _ => ?_⟩
      split at p1
      · rename_i ds1 h1'
        obtain ⟨l', xs1, ds1', g1, g2, g3, g4, _⟩ := E1.ow i _ h1'
        rw [h1] at g1; cases g1; cases g2
        split at p1
        · rename_i hl
          rw [line_eq, ← g4.length] at hl
          obtain ⟨E2, X2⟩ := E1.updOwn h1' h1 g3 (ys := xs1 ++ [v]) (es := ds1 ++ [y.1]) (by rw [List.length_append]; exact hl) (g4.append (RepL.one rv))
          exact ⟨l, xs1, v, rfl, rfl, g3, hl, p1 _ _ E2 X2 IoK.refl⟩
        · exact (show False from p1).elim
      · exact (show False from p1).elim
    · exact (show False from p).elim
/-- name[k] = e -/
def sSetIx (i : Nat) (ga gb : Sl → EV) : Sl → SV := fun δ => (ga δ).bind fun x δ1 => match δ1[i]? with
  | some (some (true, .list _)) => (gb δ1).bind fun y δ2 => match δ2[i]?, y.1 with
    | some (some (true, .list ds)), .int k => match ixN ds.length k with
      | some j => .ok .nx (δ2.set i (some (true, .list (ds.set j x.1))))
      | none => .stk
    | _, _ => .stk
  | _ => .stk
theorem psd_setIx {i : Nat} {o : Expr} {ps : Pos} (ha : PE X a (tD C W G ga)) (ho : PE X o (tVar i)) (hb : PE X b (tD C W G gb)) (hp : PS X (.Assign [.Subscript o b ps] a pos) (tAsg (tD C W G ga) (gSub (tVar i) (tD C W G gb) rSetL))) : PS X (.Assign [.Subscript o b ps] a pos) (tS C W G (sSetIx i ga gb)) :=
  PS.imp hp fun D σ H ⟨δ, E, p⟩ => ⟨δ, E, (PostS.bindE p).imp fun x δ1 H1 E1 X1 p1 v rv _ => by
    split at p1
    · rename_i ds0 h0
      obtain ⟨l, xs0, ds, h1, h2, h3, h4, _⟩ := E1.ow i _ h0
      refine ⟨_, h1, δ1, E1, (PostS.bindE p1).imp fun y δ2 H2 E2 X2 p2 w rw _ => ?_⟩
      split at p2
      · rename_i ds1 k h1' hy
        obtain ⟨l', xs1, ds1', g1, g2, g3, g4, _⟩ := E2.ow i _ h1'
        rw [h1] at g1; cases g1; cases g2
        have rw' : Rep C (WW G δ2 σ) H2 w (.int k) := hy ▸ rw
        cases rw'
        split at p2
        · rename_i j hj
          obtain ⟨E3, X3⟩ := E2.updOwn h1' h1 g3 (ys := xs1.set j v) (es := ds1.set j x.1) (by rw [List.length_set]; exact E2.sz _ _ g3) (RepL.set (X2.rep rv) j g4)
          exact ⟨l, xs1, k, j, rfl, rfl, g3, by rw [g4.length]; exact hj, p2 _ _ E3 X3 IoK.refl⟩
        · exact (show False from p2).elim
      · exact (show False from p2).elim
    · exact (show False from p1).elim⟩
end

def IoA (io : List Nat) (vs : List V) (a : Addr) : Prop := ∃ i ∈ io, vs[i]? = some (.ref a)
def WC (F : Addr → Prop) (io : List Nat) (vs : List V) (a : Addr) : Prop := F a ∨ IoA io vs a
structure InR (C : Ct) (F : Addr → Prop) (io : List Nat) (vs : List V) (ds : List D) (H : Hp) : Prop where
  len : vs.length = ds.length
  arg : ∀ (i : Nat) (v : V) (d : D), i ∉ io → vs[i]? = some v → ds[i]? = some d → Rep C (WC F io vs) H v d
  ioa : ∀ (i : Nat) (v : V) (d : D), i ∈ io → vs[i]? = some v → ds[i]? = some d → ∃ a xs es, v = .ref a ∧ d = .list es ∧ H a = some (.lst xs) ∧ RepL C (WC F io vs) H xs es ∧ ¬ F a
  inj : ∀ (i j : Nat) (a : Addr), i ∈ io → j ∈ io → vs[i]? = some (.ref a) → vs[j]? = some (.ref a) → i = j
  fl : ∀ a, F a → H a ≠ none
  sz : ∀ a xs, H a = some (.lst xs) → xs.length ≤ sizeLine
def OutR (C : Ct) (W : Addr → Prop) (io : List Nat) (vs : List V) (outs : List D) (H' : Hp) : Prop :=
  outs.length = io.length ∧ ∀ (k i : Nat) (a : Addr), io[k]? = some i → vs[i]? = some (.ref a) → ∃ xs es, outs[k]? = some (.list es) ∧ H' a = some (.lst xs) ∧ RepL C W H' xs es
structure Aft (C : Ct) (F : Addr → Prop) (io : List Nat) (vs : List V) (H H' : Hp) (outs : List D) : Prop where
  kp : Kept (IoA io vs) H H'
  th : ∀ a, H a ≠ none → H' a ≠ none
  sz : ∀ a xs, H' a = some (.lst xs) → xs.length ≤ sizeLine
  out : OutR C (WC F io vs) io vs outs H'
def FrL (C : Ct) (F : Addr → Prop) (io : List Nat) (vs : List V) (H : Hp) (outs : List D) (v : V) (d : D) (H' : Hp) : Prop :=
  (∃ a xs es, v = .ref a ∧ d = .list es ∧ H a = none ∧ H' a = some (.lst xs) ∧ RepL C (fun b => WC F io vs b ∨ b = a) H' xs es ∧ OutR C (fun b => WC F io vs b ∨ b = a) io vs outs H') ∨
  (∃ t n a xs es, v = .ref t ∧ d = .tuple [.int n, .list es] ∧ SqT C.K H' t [.int n, .ref a] ∧ H a = none ∧ H' a = some (.lst xs) ∧ RepL C (fun b => WC F io vs b ∨ b = a) H' xs es ∧ OutR C (fun b => WC F io vs b ∨ b = a) io vs outs H')
def PostF (C : Ct) (F : Addr → Prop) (io : List Nat) (vs : List V) (H : Hp) (Q : VK) (E : XK) (r : R (List D) (D × Bool)) : Prop := match r with
  | .ok p outs => ∀ v H', Aft C F io vs H H' outs → Rep C (WC F io vs) H' v p.1 →
      (p.2 = true → FrL C F io vs H outs v p.1 H') → Q v H'
  | .exc c xs outs => ∀ cls dct H', Aft C F io vs H H' outs → ExcV C (WC F io vs) H' cls dct c xs → E cls dct H'
  | .stk => False
def spD (C : Ct) (io : List Nat) (n : Nat) (f : List D → R (List D) (D × Bool)) : Sp := fun vs H Q E => ∃ ds F, vs.length = n ∧ InR C F io vs ds H ∧ PostF C F io vs H Q E (f ds)

abbrev It1 := Sum D Nat
def kJ (C : Ct) (G : Gh) (σ : St) (Q : List V → Hp → Prop) : List It1 → Sl → Hp → Prop := fun its δ' H' => ∀ vs, Paired (fun (v : V) (t : It1) => match t with
  | .inl d => Rep C (WW G δ' σ) H' v d
  | .inr j => σ[j]? = some (some v)) vs its → Q vs H'
def tJ (C : Ct) (W : WX) (G : Gh) (g : Sl → R Sl (List It1)) : TA := fun σ H Q => ∃ δ, ERel C G δ σ H ∧ Post C W G δ σ H (kJ C G σ Q) (g δ)
def gjNil : Sl → R Sl (List It1) := fun δ => .ok [] δ
def gjVal (ga : Sl → EV) (gr : Sl → R Sl (List It1)) : Sl → R Sl (List It1) := fun δ => (ga δ).bind fun x δ1 => (gr δ1).bind fun xs δ2 => .ok (.inl x.1 :: xs) δ2
def gjIo (j : Nat) (gr : Sl → R Sl (List It1)) : Sl → R Sl (List It1) := fun δ => match δ[j]? with
  | some (some (true, _)) => (gr δ).bind fun xs δ2 => .ok (.inr j :: xs) δ2
  | _ => .stk
/-- the data of the arguments -/
def itD (δ : Sl) : List It1 → Option (List D)
  | [] => some []
  | .inl d :: r => (itD δ r).map (d :: ·)
  | .inr j :: r => match δ[j]? with
    | some (some (true, d)) => (itD δ r).map (d :: ·)
    | _ => none
def itJ : List It1 → List Nat
  | [] => []
  | .inl _ :: r => itJ r
  | .inr j :: r => j :: itJ r
/-- the places of the slots among the arguments -/
def itP : Nat → List It1 → List Nat
  | _, [] => []
  | k, .inl _ :: r => itP (k + 1) r
  | k, .inr _ :: r => k :: itP (k + 1) r
def setMany (δ : Sl) : List Nat → List D → Sl
  | j :: js, o :: os => setMany (δ.set j (some (true, o))) js os
  | _, _ => δ
def nodupB : List Nat → Bool
  | [] => true
  | j :: js => !js.contains j && nodupB js
/-- a pair is not told fresh behind a call -/
def fixF (p : D × Bool) : D × Bool := match p.1 with
  | .tuple _ => (p.1, false)
  | _ => p
theorem fixF_1 (p : D × Bool) : (fixF p).1 = p.1 := by unfold fixF; split <;> rfl
theorem fixF_2 {p : D × Bool} (h : (fixF p).2 = true) : fixF p = p ∧ p.2 = true ∧ ∀ xs, p.1 ≠ .tuple xs := by
  unfold fixF at h ⊢
  split at h
  · cases h
  · rename_i q
    exact ⟨rfl, h, q⟩
def gDef (f : List D → R (List D) (D × Bool)) (io : List Nat) (gi : Sl → R Sl (List It1)) : Sl → EV := fun δ => (gi δ).bind fun its δ1 =>
  if itP 0 its == io && nodupB (itJ its) then match itD δ1 its with
    | some ds => match f ds with
      | .ok p outs => .ok (fixF p) (setMany δ1 (itJ its) outs)
      | .exc c xs outs => .exc c xs (setMany δ1 (itJ its) outs)
      | .stk => .stk
    | none => .stk
  else .stk
section
variable {C : Ct} {W : WX} {G : Gh} {δ δ1 : Sl} {σ : St} {H H1 : Hp} {X : Cx} {a b e : Expr} {es : List Expr} {ga gb : Sl → EV} {gr : Sl → R Sl (List It1)} {pos : Pos}
theorem pjd_nil : PA X [] (tJ C W G gjNil) := PA.imp pa_nil fun σ H Q ⟨δ, E, p⟩ => p H E Ext.refl [] .nil
theorem it_move {x : List V} {its : List It1} (X1 : Ext δ σ H δ1 σ H1) (h : Paired (fun (v : V) (t : It1) => match t with | .inl d => Rep C (WW G δ σ) H v d | .inr j => σ[j]? = some (some v)) x its) :
    Paired (fun (v : V) (t : It1) => match t with | .inl d => Rep C (WW G δ1 σ) H1 v d | .inr j => σ[j]? = some (some v)) x its := Paired.mapP h fun v t q => by
  cases t with
  | inl d => exact X1.rep q
  | inr j => exact q
theorem pjd_val (ha : PE X e (tD C W G ga)) (hr : PA X es (tJ C W G gr)) (hs : starEach (e :: es) X.env = (false, eval e X.env) :: starEach es X.env := by rfl) : PA X (e :: es) (tJ C W G (gjVal ga gr)) := PA.imp (pa_cons ha hr hs) fun σ H Q ⟨δ, E, p⟩ =>
  ⟨δ, E, (Post.bind p).imp fun x δ1 H1 E1 X1 p1 v rv _ => ⟨δ1, E1, (Post.bind p1).imp fun y δ2 H2 E2 X2 p2 vs rs => p2 H2 E2 Ext.refl (v :: vs) (.cons (X2.rep rv) rs)⟩⟩
theorem pjd_io {j : Nat} {x : Str} {pos' : Pos} (ha : PE X (.Name x pos') (tVar j)) (hr : PA X es (tJ C W G gr)) (hs : starEach (.Name x pos' :: es) X.env = (false, eval (.Name x pos') X.env) :: starEach es X.env := by rfl) : PA X (.Name x pos' :: es) (tJ C W G (gjIo j gr)) := PA.imp (pa_cons ha hr hs) fun σ H Q ⟨δ, E, p⟩ => by
  unfold gjIo at p
  split at p
  · rename_i d h
    obtain ⟨a, xs, ds, h1, _⟩ := E.ow j d h
    exact ⟨_, h1, δ, E, (Post.bind p).imp fun y δ2 H2 E2 X2 p2 vs rs => p2 H2 E2 Ext.refl (.ref a :: vs) (.cons h1 rs)⟩
  · exact p.elim
end
end DL

namespace DL
open PySem PySem.Spec L2
open PyProof.Rows hiding St

theorem itP_ge : ∀ (its : List It1) (k0 k i : Nat), (itP k0 its)[k]? = some i → k0 ≤ i ∧ ∃ j, (itJ its)[k]? = some j ∧ its[i - k0]? = some (Sum.inr j)
  | [], _, _, _, h => by simp [itP] at h
  | .inl d :: r, k0, k, i, h => by
    obtain ⟨h1, j, h2, h3⟩ := itP_ge r (k0 + 1) k i h
    refine ⟨by omega, j, h2, ?_⟩
    rw [show i - k0 = (i - (k0 + 1)) + 1 by omega]
    exact h3
  | .inr j :: r, k0, 0, i, h => by
    have e : k0 = i := by simpa [itP] using h
    subst e
    exact ⟨Nat.le_refl _, j, rfl, by rw [Nat.sub_self]; rfl⟩
  | .inr j0 :: r, k0, k + 1, i, h => by
    obtain ⟨h1, j, h2, h3⟩ := itP_ge r (k0 + 1) k i (by simpa [itP] using h)
    refine ⟨by omega, j, h2, ?_⟩
    rw [show i - k0 = (i - (k0 + 1)) + 1 by omega]
    exact h3
theorem itP_at : ∀ (its : List It1) (k0 i j : Nat), its[i]? = some (Sum.inr j) → ∃ k : Nat, (itP k0 its)[k]? = some (k0 + i) ∧ (itJ its)[k]? = some j
  | [], _, _, _, h => by simp at h
  | .inl d :: r, k0, 0, j, h => by simp at h
  | .inl d :: r, k0, i + 1, j, h => by
    obtain ⟨k, h1, h2⟩ := itP_at r (k0 + 1) i j (by simpa using h)
    exact ⟨k, by rw [show k0 + (i + 1) = k0 + 1 + i by omega]; exact h1, h2⟩
  | .inr j0 :: r, k0, 0, j, h => by
    have e : j0 = j := by simpa using h
    subst e
    exact ⟨0, rfl, rfl⟩
  | .inr j0 :: r, k0, i + 1, j, h => by
    obtain ⟨k, h1, h2⟩ := itP_at r (k0 + 1) i j (by simpa using h)
    exact ⟨k + 1, by rw [show k0 + (i + 1) = k0 + 1 + i by omega]; exact h1, h2⟩
theorem itP_len : ∀ (its : List It1) (k0 : Nat), (itP k0 its).length = (itJ its).length
  | [], _ => rfl
  | .inl d :: r, k0 => itP_len r (k0 + 1)
  | .inr j :: r, k0 => by simp [itP, itJ, itP_len r (k0 + 1)]
theorem itD_at {δ : Sl} : ∀ (its : List It1) (ds : List D), itD δ its = some ds → its.length = ds.length ∧ (∀ (i : Nat) (d : D), its[i]? = some (Sum.inl d) → ds[i]? = some d) ∧ ∀ (i j : Nat), its[i]? = some (Sum.inr j) → ∃ d : D, δ[j]? = some (some (true, d)) ∧ ds[i]? = some d
  | [], ds, h => by cases h; exact ⟨rfl, by simp, by simp⟩
  | .inl d :: r, ds, h => by
    unfold itD at h
    cases q : itD δ r with
    | none => rw [q] at h; cases h
    | some es =>
      rw [q] at h; cases h
      obtain ⟨h1, h2, h3⟩ := itD_at r es q
      refine ⟨by simp [h1], fun i e hi => ?_, fun i j hi => ?_⟩
      · cases i with
        | zero => have z : d = e := by simpa using hi
                  subst z; rfl
        | succ i => exact h2 i e (by simpa using hi)
      · cases i with
        | zero => simp at hi
        | succ i => exact h3 i j (by simpa using hi)
  | .inr j0 :: r, ds, h => by
    unfold itD at h
    split at h
    · rename_i d0 hd
      cases q : itD δ r with
      | none => rw [q] at h; cases h
      | some es =>
        rw [q] at h; cases h
        obtain ⟨h1, h2, h3⟩ := itD_at r es q
        refine ⟨by simp [h1], fun i e hi => ?_, fun i j hi => ?_⟩
        · cases i with
          | zero => simp at hi
          | succ i => exact h2 i e (by simpa using hi)
        · cases i with
          | zero => have z : j0 = j := by simpa using hi
                    subst z; exact ⟨d0, hd, rfl⟩
          | succ i => exact h3 i j (by simpa using hi)
    · cases h
theorem nodupB_ok : ∀ (js : List Nat), nodupB js = true → js.Nodup
  | [], _ => List.nodup_nil
  | j :: js, h => by
    unfold nodupB at h
    rw [Bool.and_eq_true] at h
    exact List.nodup_cons.mpr ⟨by simpa using h.1, nodupB_ok js h.2⟩
theorem setMany_len : ∀ (js : List Nat) (os : List D) (δ : Sl), (setMany δ js os).length = δ.length
  | [], _, _ => by simp [setMany]
  | _ :: _, [], _ => rfl
  | j :: js, o :: os, δ => by
    unfold setMany
    rw [setMany_len js os, List.length_set]
theorem setMany_off : ∀ (js : List Nat) (os : List D) (δ : Sl) (i : Nat), i ∉ js → (setMany δ js os)[i]? = δ[i]?
  | [], _, _, _, _ => by simp [setMany]
  | _ :: _, [], _, _, _ => rfl
  | j :: js, o :: os, δ, i, h => by
    simp only [List.mem_cons, not_or] at h
    unfold setMany
    rw [setMany_off js os _ i h.2, List.getElem?_set_ne fun e => h.1 e.symm]
theorem setMany_on : ∀ (js : List Nat) (os : List D) (δ : Sl) (k j : Nat) (o : D), js.Nodup → js[k]? = some j → os[k]? = some o → j < δ.length → (setMany δ js os)[j]? = some (some (true, o))
  | [], _, _, _, _, _, _, h, _, _ => by simp at h
  | _ :: _, [], _, _, _, _, _, _, h, _ => by simp at h
  | j0 :: js, o0 :: os, δ, 0, j, o, nd, h1, h2, hl => by
    have e1 : j0 = j := by simpa using h1
    have e2 : o0 = o := by simpa using h2
    subst e1 e2
    unfold setMany
    rw [setMany_off js os _ j0 (List.nodup_cons.mp nd).1, List.getElem?_set_self hl]
  | j0 :: js, o0 :: os, δ, k + 1, j, o, nd, h1, h2, hl => by
    unfold setMany
    exact setMany_on js os _ k j o (List.nodup_cons.mp nd).2 (by simpa using h1) (by simpa using h2) (by rw [List.length_set]; exact hl)

section
variable {C : Ct} {W : WX} {G : Gh} {δ δ1 : Sl} {σ : St} {H H1 H' : Hp} {X : Cx} {its : List It1} {vs : List V} {ds outs : List D} {io : List Nat}
abbrev ItR (C : Ct) (G : Gh) (δ : Sl) (σ : St) (H : Hp) : List V → List It1 → Prop := Paired (fun (v : V) (t : It1) => match t with
  | .inl d => Rep C (WW G δ σ) H v d
  | .inr j => σ[j]? = some (some v))
theorem paired_len {α β : Type} {R : α → β → Prop} : ∀ {xs : List α} {ys : List β}, Paired R xs ys → xs.length = ys.length := fun h => Paired.length h
theorem paired_get {α β : Type} {R : α → β → Prop} : ∀ {xs : List α} {ys : List β} {i : Nat} {y : β}, Paired R xs ys → ys[i]? = some y → ∃ x, xs[i]? = some x ∧ R x y
  | _, _, _, _, .nil, e => by simp at e
  | _, _, 0, _, .cons r _, e => by simp at e; subst e; exact ⟨_, rfl, r⟩
  | _, _, i + 1, y, .cons _ t, e => by
    obtain ⟨x, h1, h2⟩ := paired_get (i := i) (y := y) t (by simpa using e)
    exact ⟨x, by simpa using h1, h2⟩
/-- what the caller knows of the addresses that it hands over -/
structure Hand (C : Ct) (G : Gh) (δ : Sl) (σ : St) (H : Hp) (its : List It1) (vs : List V) (ds : List D) (io : List Nat) : Prop where
  E : ERel C G δ σ H
  r : ItR C G δ σ H vs its
  p : itP 0 its = io
  nd : (itJ its).Nodup
  d : itD δ its = some ds
theorem Hand.ioa (h : Hand C G δ σ H its vs ds io) {i : Nat} (hi : i ∈ io) : ∃ (k j : Nat) (a : Addr) (d : D), io[k]? = some i ∧ (itJ its)[k]? = some j ∧ its[i]? = some (Sum.inr j) ∧ σ[j]? = some (some (.ref a)) ∧ vs[i]? = some (.ref a) ∧ δ[j]? = some (some (true, d)) ∧ ds[i]? = some d := by
  obtain ⟨k, hk⟩ := List.getElem?_of_mem hi
  obtain ⟨_, j, h2, h3⟩ := itP_ge its 0 k i (by rw [h.p]; exact hk)
  rw [Nat.sub_zero] at h3
  obtain ⟨d, h4, h5⟩ := (itD_at its ds h.d).2.2 i j h3
  obtain ⟨v, h6, h7⟩ := paired_get h.r h3
  obtain ⟨a, xs, es, h8, _⟩ := h.E.ow j d h4
  have h7 : σ[j]? = some (some v) := h7
  rw [h8] at h7; cases h7
  exact ⟨k, j, a, d, hk, h2, h3, h8, h6, h4, h5⟩
theorem Hand.own (h : Hand C G δ σ H its vs ds io) {a : Addr} (z : IoA io vs a) : Own δ σ a := by
  obtain ⟨i, hi, hv⟩ := z
  obtain ⟨k, j, b, d, _, _, _, h1, h2, h3, _⟩ := h.ioa hi
  rw [hv] at h2; cases h2
  exact ⟨j, d, h3, h1⟩
def Hand.F (_ : Hand C G δ σ H its vs ds io) : Addr → Prop := fun a => WW G δ σ a ∧ ¬ IoA io vs a
theorem Hand.wc (h : Hand C G δ σ H its vs ds io) : ∀ a, WC h.F io vs a ↔ WW G δ σ a := fun a => by
  constructor
  · rintro (z | z)
    · exact z.1
    · exact .inr (h.own z)
  · intro z
    by_cases q : IoA io vs a
    · exact .inr q
    · exact .inl ⟨z, q⟩
theorem Hand.in_ (h : Hand C G δ σ H its vs ds io) : InR C h.F io vs ds H where
  len := (paired_len h.r).trans (itD_at its ds h.d).1
  arg := fun i v d hi hv hd => by
    have hl : i < its.length := by
      rw [← paired_len h.r]
      exact (List.getElem?_eq_some_iff.mp hv).1
    cases q : its[i]? with
    | none => exact absurd (List.getElem?_eq_none_iff.mp q) (by omega)
    | some t =>
      cases t with
      | inr j =>
        obtain ⟨k, h1, _⟩ := itP_at its 0 i j q
        rw [h.p, Nat.zero_add] at h1
        exact absurd (List.mem_of_getElem? h1) hi
      | inl e =>
        have h1 := (itD_at its ds h.d).2.1 i e q
        rw [hd] at h1; cases h1
        obtain ⟨v', h2, h3⟩ := paired_get h.r q
        rw [hv] at h2; cases h2
        exact Rep.weak (fun a z => (h.wc a).mp z) h3
  ioa := fun i v d hi hv hd => by
    obtain ⟨k, j, a, d', _, _, _, h1, h2, h3, h4⟩ := h.ioa hi
    rw [hv] at h2; cases h2
    rw [hd] at h4; cases h4
    obtain ⟨b, xs, es, g1, g2, g3, g4, _⟩ := h.E.ow j d h3
    rw [h1] at g1; cases g1
    exact ⟨a, xs, es, rfl, g2, g3, g4.weak fun b z => (h.wc b).mp z, fun z => z.2 ⟨i, hi, hv⟩⟩
  inj := fun i i' a hi hi' hv hv' => by
    obtain ⟨k, j, b, d, k1, k2, h0, h1, h2, h3, _⟩ := h.ioa hi
    obtain ⟨k', j', b', d', k1', k2', h0', h1', h2', h3', _⟩ := h.ioa hi'
    rw [hv] at h2; cases h2
    rw [hv'] at h2'; cases h2'
    have e := h.E.inj j j' a d d' h3 h3' h1 h1'
    subst e
    have ek : k = k' := by
      obtain ⟨hk, e1⟩ := List.getElem?_eq_some_iff.mp k2
      obtain ⟨hk', e2⟩ := List.getElem?_eq_some_iff.mp k2'
      exact (List.getElem_inj h.nd).mp (e1.trans e2.symm)
    subst ek
    rw [k1] at k1'
    exact Option.some.inj k1'
  fl := fun a z => h.E.wwH z.1
  sz := h.E.sz
/-- behind the call -/
theorem Hand.after (h : Hand C G δ σ H its vs ds io) {Wp : Addr → Prop} (af : Aft C h.F io vs H H' outs) (G' : Gh) (hio : G'.io = G.io) (hold : ∀ a, G'.Old a ↔ G.Old a) (hF : ∀ a, G.F a → G'.F a) (hF' : ∀ a, G'.F a → G.F a ∨ H a = none)
    (hFH : ∀ a, G'.F a → H' a ≠ none) (hW : ∀ a, WW G' δ σ a → Wp a) (out : OutR C Wp io vs outs H') : ERel C G' (setMany δ (itJ its) outs) σ H' ∧ Ext δ σ H (setMany δ (itJ its) outs) σ H' ∧ ∀ a, Own (setMany δ (itJ its) outs) σ a ↔ Own δ σ a := by
  have ko : Kept (Own δ σ) H H' := fun a o e n => af.kp a o e fun z => n (h.own z)
  have jl : ∀ {j}, j ∈ itJ its → ∃ (k i : Nat) (a : Addr) (d : PyData), (itJ its)[k]? = some j ∧ io[k]? = some i ∧ σ[j]? = some (some (.ref a)) ∧ vs[i]? = some (.ref a) ∧ δ[j]? = some (some (true, d)) := fun {j} hj => by
    obtain ⟨k, hk⟩ := List.getElem?_of_mem hj
    have hk2 : k < io.length := by
      rw [← h.p, itP_len]
      exact (List.getElem?_eq_some_iff.mp hk).1
    obtain ⟨k', j', a, d, h1, h2, h3, h4, h5, h6, _⟩ := h.ioa (i := io[k]) (List.getElem_mem hk2)
    have e0 : io[k]? = some io[k] := List.getElem?_eq_getElem hk2
    obtain ⟨_, j2, q1, q2⟩ := itP_ge its 0 k io[k] (by rw [h.p]; exact e0)
    rw [Nat.sub_zero] at q2
    rw [hk] at q1; cases q1
    rw [h3] at q2; cases q2
    exact ⟨k, io[k], a, d, hk, e0, h4, h5, h6⟩
  have o : ∀ a, Own (setMany δ (itJ its) outs) σ a ↔ Own δ σ a := fun a => by
    constructor
    · rintro ⟨j, d, g1, g2⟩
      by_cases hj : j ∈ itJ its
      · obtain ⟨_, _, a', d', _, _, q1, _, q2⟩ := jl hj
        exact ⟨j, d', q2, g2⟩
      · rw [setMany_off _ _ _ _ hj] at g1
        exact ⟨j, d, g1, g2⟩
    · rintro ⟨j, d, g1, g2⟩
      by_cases hj : j ∈ itJ its
      · obtain ⟨k, i, a', d', q0, q3, q1, q4, q2⟩ := jl hj
        obtain ⟨xs, es, r1, _⟩ := out.2 k i a' q3 q4
        exact ⟨j, _, setMany_on _ _ _ k j _ h.nd q0 r1 (List.getElem?_eq_some_iff.mp g1).1, g2⟩
      · exact ⟨j, d, by rw [setMany_off _ _ _ _ hj]; exact g1, g2⟩
  have w : ∀ a, WW G' (setMany δ (itJ its) outs) σ a → WW G δ σ a ∨ H a = none := fun a z => z.elim (fun q => (hF' a q).imp .inl id) fun q => .inl (.inr ((o a).mp q))
  have w2 : ∀ a, WW G' (setMany δ (itJ its) outs) σ a → Wp a := fun a z => hW a (z.imp id (o a).mp)
  refine ⟨⟨by rw [setMany_len]; exact h.E.len, fun i d e => ?_, fun i d e => ?_, fun i j a di dj g1 g2 g3 g4 => ?_, hFH, fun a z => af.th a (h.E.ol a ((hold a).mp z)), af.sz⟩, ⟨ko, af.th, fun a z => .inl ((o a).mp z)⟩, o⟩
  · by_cases hj : i ∈ itJ its
    · obtain ⟨k, i', a', d', q0, q3, q1, q4, q2⟩ := jl hj
      obtain ⟨xs, es, r1, _⟩ := out.2 k i' a' q3 q4
      rw [setMany_on _ _ _ k i _ h.nd q0 r1 (List.getElem?_eq_some_iff.mp q2).1] at e
      cases e
    · rw [setMany_off _ _ _ _ hj] at e
      obtain ⟨v, r1, r2⟩ := h.E.sh i d e
      exact ⟨v, r1, r2.move ko (fun _ z => .inr z) w⟩
  · by_cases hj : i ∈ itJ its
    · obtain ⟨k, i', a', d', q0, q3, q1, q4, q2⟩ := jl hj
      obtain ⟨xs, es, r1, r2, r3⟩ := out.2 k i' a' q3 q4
      rw [setMany_on _ _ _ k i _ h.nd q0 r1 (List.getElem?_eq_some_iff.mp q2).1] at e
      cases e
      obtain ⟨b, ys, es', g1, g2, g3, g4, g5, g6⟩ := h.E.ow i d' q2
      rw [q1] at g1; cases g1
      refine ⟨a', xs, es, q1, rfl, r2, r3.weak w2, fun z => ?_, fun n z => ?_⟩
      · rcases hF' a' z with z | z
        · exact g5 z
        · rw [g3] at z; cases z
      · rw [hio] at n
        exact g6 n ((hold a').mp z)
    · rw [setMany_off _ _ _ _ hj] at e
      obtain ⟨b, ys, es, g1, g2, g3, g4, g5, g6⟩ := h.E.ow i d e
      have nb : ¬ IoA io vs b := fun ⟨i', hi', hv⟩ => by
        obtain ⟨k, j, b', d', k1, k2, _, q1, q2, q3, _⟩ := h.ioa hi'
        rw [hv] at q2; cases q2
        have e' := h.E.inj i j b d d' e q3 g1 q1
        exact hj (by rw [e']; exact List.mem_of_getElem? k2)
      refine ⟨b, ys, es, g1, g2, af.kp b _ g3 (fun z => absurd z nb), g4.move ko (fun _ z => .inr z) w, fun z => ?_, fun n z => ?_⟩
      · rcases hF' b z with z | z
        · exact g5 z
        · rw [g3] at z; cases z
      · rw [hio] at n
        exact g6 n ((hold b).mp z)
  · have key : ∀ {j d}, (setMany δ (itJ its) outs)[j]? = some (some (true, d)) → ∃ d', δ[j]? = some (some (true, d')) := fun {j d} g => by
      by_cases hj : j ∈ itJ its
      · obtain ⟨_, _, _, d', _, _, _, _, q⟩ := jl hj
        exact ⟨d', q⟩
      · rw [setMany_off _ _ _ _ hj] at g; exact ⟨d, g⟩
    obtain ⟨d1, z1⟩ := key g1
    obtain ⟨d2, z2⟩ := key g2
    exact h.E.inj i j a d1 d2 z1 z2 g3 g4
end
end DL

namespace DL
open PySem PySem.Spec L2
open PyProof.Rows hiding St

structure FnG (P : Program) (w : World) (K : PySem.W.Frag) (mg : Str → Option Value) (base : Heap) (cx : CXT) (k : Nat) (fa : Addr) (fd : FuncData) (ps : List Str) (sp : Sp) : Prop where
  len : ∀ vs H Q E, sp vs H Q E → vs.length = ps.length
  go : ∀ (B : Around) (ou : List Env) (t : Shared) (H : Hp) (ar : Args) (us : List Value) (vs : List V) (Q : VK) (E : XK), B.guards = some [] → Room k B → Env0 P w K mg base B ou t H → BindsTo t fd ar (ps.zip us) → Vals vs us → sp vs H Q E →
    codeAny (model P w) B (.call (.ref fa) ar) (CR cx ou P w H t Q E) t
theorem FnG.weak {P : Program} {w : World} {K : PySem.W.Frag} {mg : Str → Option Value} {base : Heap} {cx : CXT} {k : Nat} {fa : Addr} {fd : FuncData} {ps : List Str} {sp sp' : Sp} (F : FnG P w K mg base cx k fa fd ps sp) (h : ∀ vs H Q E, sp' vs H Q E → sp vs H Q E) : FnG P w K mg base cx k fa fd ps sp' :=
  ⟨fun vs H Q E z => F.len _ _ _ _ (h _ _ _ _ z), fun B ou t H ar us vs Q E hG hr e b r z => F.go B ou t H ar us vs Q E hG hr e b r (h _ _ _ _ z)⟩
theorem fn_body {P : Program} {w : World} {K : PySem.W.Frag} {mg : Str → Option Value} {base : Heap} {cx : CXT} {x qual : Str} {st : Stmt} {fa : Addr} {fd : FuncData} {Nm ps : List Str} {k : Nat} {sp : Sp} (Fn : Fun K x qual st fa fd) (Sc : FnScope Nm ps (defScope st)) (ln : ∀ vs H Q E, sp vs H Q E → vs.length = ps.length)
    (hb : ∀ (cdv : Value) (B : Around) (ou : List Env) (t : Shared) (H : Hp) (vs : List V) (Q : VK) (E : XK), B.guards = some [] → Room k (B.deeper (envOfC qual (defScope st) t.heap.objs.size fa cdv)) → sp vs H Q E →
      ∃ ts, PSs (cxOf cx P w K mg base Nm qual (defScope st) fa cdv B ou t H E) (defBody st) ts ∧ ts { nx := fun _ H' => Q .non H', rt := Q } (L2.start Nm vs) H) : FnG P w K mg base cx (k + 1) fa fd ps sp := by
  obtain ⟨oc, od, kV, doc, pm, an, cdv, ct, osl, hfd, lk, hcode⟩ := Fn.ex
  subst hfd
  refine ⟨ln, fun B ou t H ar us vs Q E hG hr e0 hbind rv wish => ?_⟩
  have hlen := ln _ _ _ _ wish
  have up : ∀ b o, base.get? b = some o → t.heap.get? b = some o := fun b o e => (e0.bs b o e).1
  have inK : K.In t.heap := e0.mod.kin.keeps up
  have nolim : t.heap.NoLimit := e0.mod.nolimit.keeps up
  have kinds : ∀ y ∈ ps.zip us, (defScope st).names.lookup y.1 = some .local ∨ ((defScope st).names.lookup y.1 = some .cell ∧ ((cellsFrom (t.heap.objs.size + 1) (defScope st).names []).lookup y.1).isSome = true) := fun y hy =>
    (Sc.par y.1 (List.of_mem_zip hy).1).imp id fun q => ⟨q, PySem.W.cellsFrom_some _ _ _ (.inl q)⟩
  refine codeAny_call_function hr.depth (inK _ _ lk) rfl Sc.co Sc.gen rfl (PySem.W.codeRec_of inK hcode) (hbind _ _ _ _ (wpAny_newFunctionEnv_cells Sc.kind kinds fun env he t1 xx => ?_))
  subst he
  refine ⟨nolim.keeps xx.toInCall.keep, codeAny_func ?_⟩
  obtain ⟨ts, h1, h2⟩ := hb cdv B ou t H vs Q E hG (hr.deeper _) wish
  have inv : Inv (cxOf cx P w K mg base Nm qual (defScope st) fa cdv B ou t H E) [] (L2.start Nm vs) H t1 := inv_start Sc hr.hd e0 hlen rv xx
  refine wpAny_mono (h1.run [] t1 (L2.start Nm vs) H _ inv h2) (fun fl t2 hs => ?_) fun e t2 hs => hs
  cases fl with
  | ret u => obtain ⟨v, τ, H', J, r2, q⟩ := hs; exact ⟨v, H', J.os, J.bare, J.base, J.hok, r2, q⟩
  | next => obtain ⟨τ, H', J, q⟩ := hs; exact ⟨.non, H', J.os, J.bare, J.base, J.hok, rfl, q⟩
  | brk => obtain ⟨_, _, _, q⟩ := hs; exact q.elim
  | cont => obtain ⟨_, _, _, q⟩ := hs; exact q.elim
section
variable {X : Cx} {cx : CXT} {k : Nat} {fa : Addr} {fd : FuncData} {ps : List Str} {sp : Sp} {E : St → XK} {x : Str} {p pos : Pos} {e : Expr} {es : List Expr} {t : TA}
theorem run_g {pins : List (Addr × Obj)} {σ : St} {H : Hp} {s : Shared} {Q : VK} {us : List Value} {vs : List V} (F : FnG X.prog X.w X.K X.mg X.base cx k fa fd ps sp) (hG : X.A.guards = some []) (hr : Room k X.A) (hb : Binds X.K fd ps []) (hx : PassesAt cx X σ (E σ))
    (I : Inv X pins σ H s) (rv : Vals vs us) (wish : sp vs H Q (E σ)) : wpAny (model X.prog X.w) X.A (call (.ref fa) us) (EP X pins σ Q) X.xe s := by
  have b := hb s us I.kIn (by rw [List.append_nil, ← rv.length]; exact F.len _ _ _ _ wish)
  rw [List.append_nil] at b
  refine wpAny_call (codeAny_mono (F.go X.A X.stack s H ⟨us, []⟩ us vs Q (E σ) hG hr I.env0 b rv wish) fun r s' hq => ?_)
  match r, hq with
  | .error e, hq => exact hx pins H s e s' I hq
  | .ok (.ret u), hq => exact I.after hq
theorem pe_callG (F : FnG X.prog X.w X.K X.mg X.base cx k fa fd ps sp) (hG : X.A.guards = some []) (hr : Room k X.A) (hg : Gl X x) (hm : X.mg x = some (.ref fa)) (hk : PySem.W.keepIn X.K (.ref fa) = true) (hb : Binds X.K fd ps []) (hx : ∀ σ, PassesAt cx X σ (E σ))
    (ha : PA X (e :: es) t) (hdb : (x == ("__debug__" : Str)) = false) (he : starEach (e :: es) X.env = (false, eval e X.env) :: starEach es X.env) (hpl : (backTo pos (starEach es X.env)).any (·.1) = false) : PE X (.Call (.Name x p) (e :: es) [] pos) (tCallS sp E t) :=
  ⟨fun pins s σ H Q I h => wpAny_Call_Name_kw (ld_glob I hg hm (PySem.W.callWith_K (h₀ := X.base) I.ok.mod.kin hk (thn (ha.run pos pins s σ H _ I h) fun us s1 ⟨vs, H1, I1, r, q⟩ => ⟨I1.kIn, run_g F hG hr hb (hx σ) I1 r q⟩) he hpl) hdb)⟩
theorem pe_callG0 (F : FnG X.prog X.w X.K X.mg X.base cx k fa fd [] sp) (hG : X.A.guards = some []) (hr : Room k X.A) (hg : Gl X x) (hm : X.mg x = some (.ref fa)) (hk : PySem.W.keepIn X.K (.ref fa) = true) (hb : Binds X.K fd [] []) (hx : ∀ σ, PassesAt cx X σ (E σ))
    (hdb : (x == ("__debug__" : Str)) = false) : PE X (.Call (.Name x p) [] [] pos) (fun σ H Q => sp [] H Q (E σ)) :=
  ⟨fun pins s σ H Q I h => wpAny_Call_Name_kw (ld_glob I hg hm (PySem.W.callWith_K0 I.kIn hk (run_g (us := []) F hG hr hb (hx σ) I .nil h)) hdb)⟩
end

section
variable {C : Ct} {W : WX} {G : Gh} {δ δ1 : Sl} {σ : St} {H H1 H' : Hp} {X : Cx} {io : List Nat} {n : Nat} {f : List PyData → R (List PyData) (PyData × Bool)} {gi : Sl → R Sl (List It1)} {Q : VK}
/-- the promise met by the caller -/
theorem sp_ok {its : List It1} {vs : List V} {δ0 : Sl} {H0 : Hp} (hn : ∀ ds, itD δ1 its = some ds → ds.length = n) (E1 : ERel C G δ1 σ H1) (rs : ItR C G δ1 σ H1 vs its) (p1 : Post C W G δ1 σ H1 (kE C G δ1 σ H1 Q) (if itP 0 its == io && nodupB (itJ its) then match itD δ1 its with
    | some ds => match f ds with
      | .ok p outs => .ok (fixF p) (setMany δ1 (itJ its) outs)
      | .exc c xs outs => .exc c xs (setMany δ1 (itJ its) outs)
      | .stk => .stk
    | none => .stk
  else .stk)) : spD C io n f vs H1 Q (WE W σ) := by
  split at p1
  case isFalse => exact (show False from p1).elim
  case isTrue hc =>
  rw [Bool.and_eq_true] at hc
  split at p1
  case h_2 => exact (show False from p1).elim
  case h_1 ds hd =>
  have h : Hand C G δ1 σ H1 its vs ds io := ⟨E1, rs, by simpa using hc.1, nodupB_ok _ hc.2, hd⟩
  have hl : vs.length = n := by rw [h.in_.len, hn ds hd]
  refine ⟨ds, h.F, hl, h.in_, ?_⟩
  cases q : f ds with
  | ok p outs =>
    rw [q] at p1
    intro v H2 af rv fr
    obtain ⟨E2, X2, o⟩ := h.after af G rfl (fun _ => Iff.rfl) (fun _ z => z) (fun _ z => .inl z) (fun a z => af.th a (E1.fl a z)) (Wp := WC h.F io vs) (fun a z => (h.wc a).mpr z) af.out
    have ww : ∀ a, WW G (setMany δ1 (itJ its) outs) σ a → WC h.F io vs a := fun a z => (h.wc a).mpr (z.imp id (o a).mp)
    refine p1 H2 E2 X2 v (by rw [fixF_1]; exact rv.weak ww) fun z => ?_
    obtain ⟨z1, z2, z3⟩ := fixF_2 z
    rw [fixF_1]
    obtain ⟨a, xs, es, rfl, e1, n1, e2, r1, o1⟩ | ⟨_, _, _, _, _, _, e1, _⟩ := fr z2
    case inr => exact absurd e1 (z3 _)
    have na : ¬ WW G δ1 σ a := fun q => E1.wwH q n1
    obtain ⟨E3, _, _⟩ := h.after af (G.plus a) rfl (fun _ => Iff.rfl) (fun _ z => .inl z) (fun b (z : G.F b ∨ b = a) => z.imp id fun e => by rw [e]; exact n1)
      (fun b z => by
        rcases z with z | z
        · exact af.th b (E1.fl b z)
        · rw [z, e2]; exact fun z => nomatch z) (Wp := fun b => WC h.F io vs b ∨ b = a) (fun b z => by
        rcases z with (z | z) | z
        · exact .inl ((h.wc b).mpr (.inl z))
        · exact .inr z
        · exact .inl ((h.wc b).mpr (.inr z))) o1
    refine ⟨⟨a, xs, es, rfl, e1, fun z => E1.ol a z n1, fun z => E1.fl a z n1, e2, r1.weak fun b z => ?_, E3⟩, fun b e => by cases e; exact .inl n1⟩
    rcases z with (z | z) | z
    · exact .inl ((h.wc b).mpr (.inl z))
    · exact .inr z
    · exact .inl ((h.wc b).mpr (.inr ((o b).mp z)))
  | exc c xs outs =>
    rw [q] at p1
    intro cls dct H2 af ev
    obtain ⟨E2, X2, o⟩ := h.after af G rfl (fun _ => Iff.rfl) (fun _ z => z) (fun _ z => .inl z) (fun a z => af.th a (E1.fl a z)) (Wp := WC h.F io vs) (fun a z => (h.wc a).mpr z) af.out
    have ww : ∀ a, WW G (setMany δ1 (itJ its) outs) σ a → WC h.F io vs a := fun a z => (h.wc a).mpr (z.imp id (o a).mp)
    refine p1 cls dct H2 E2 X2 ⟨ev.1, ev.2.imp id fun ⟨dd, v, d, h1, h2, h3, h4⟩ => ⟨dd, v, d, h1, h2, h3, h4.weak ww⟩⟩
  | stk => rw [q] at p1; exact (show False from p1).elim
def CallN (n : Nat) (gi : Sl → R Sl (List It1)) : Prop := ∀ δ its δ1, gi δ = .ok its δ1 → its.length = n
theorem cn_nil : CallN 0 gjNil := fun δ its δ1 h => by cases h; rfl
theorem cn_val {ga : Sl → EV} (h : CallN n gi) : CallN (n + 1) (gjVal ga gi) := fun δ its δ1 e => by
  unfold gjVal at e
  cases q1 : ga δ with
  | ok x d0 =>
    rw [q1] at e
    have e : ((gi d0).bind fun xs δ2 => (.ok (.inl x.1 :: xs) δ2 : R Sl (List It1))) = .ok its δ1 := e
    cases q : gi d0 with
    | ok xs d1 =>
      rw [q] at e
      cases e
      rw [List.length_cons, h _ _ _ q]
    | exc c xs d1 => rw [q] at e; cases e
    | stk => rw [q] at e; cases e
  | exc c xs d1 => rw [q1] at e; cases e
  | stk => rw [q1] at e; cases e
theorem cn_io {j : Nat} (h : CallN n gi) : CallN (n + 1) (gjIo j gi) := fun δ its δ1 e => by
  unfold gjIo at e
  split at e
  · cases q : gi δ with
    | ok xs d1 =>
      rw [q] at e
      cases e
      rw [List.length_cons, h _ _ _ q]
    | exc c xs d1 => rw [q] at e; cases e
    | stk => rw [q] at e; cases e
  · cases e
theorem itD_len {δ : Sl} {its : List It1} {ds : List PyData} (h : itD δ its = some ds) : ds.length = its.length := (itD_at its ds h).1.symm
theorem pd_call {k : Nat} {fa : Addr} {fd : FuncData} {ps : List Str} {x : Str} {p pos : Pos} {e : Expr} {es : List Expr} (F : FnG X.prog X.w X.K X.mg X.base (L2.CX X.prog X.w) k fa fd ps (spD C io n f)) (tk : Takes X W) (hG : X.A.guards = some []) (hr : Room k X.A) (hg : Gl X x) (hm : X.mg x = some (.ref fa)) (hk : PySem.W.keepIn X.K (.ref fa) = true) (hb : Binds X.K fd ps [])
    (ha : PA X (e :: es) (tJ C W G gi)) (cn : CallN n gi) (hdb : (x == ("__debug__" : Str)) = false := by decide) (he : starEach (e :: es) X.env = (false, eval e X.env) :: starEach es X.env := by rfl) (hpl : (backTo pos (starEach es X.env)).any (·.1) = false := by rfl) :
    PE X (.Call (.Name x p) (e :: es) [] pos) (tD C W G (gDef f io gi)) := PE.imp (pe_callG F hG hr hg hm hk hb (fun σ => passAt tk σ) ha hdb he hpl) fun σ H Q ⟨δ, E, p⟩ => by
  refine ⟨δ, E, ?_⟩
  unfold gDef at p
  have p' := Post.bind p
  cases q : gi δ with
  | ok its δ1 =>
    rw [q] at p'
    intro H1 E1 X1 vs rs
    have p1 := (p' H1 E1 X1).at X1
    exact sp_ok (δ0 := δ) (H0 := H) (fun ds hd => by rw [itD_len hd]; exact cn _ _ _ q) E1 rs p1
  | exc c xs d => rw [q] at p'; exact p'
  | stk => rw [q] at p'; exact p'
/-- f() -/
def gDef0 (f : List D → R (List D) (D × Bool)) : Sl → EV := fun δ => match f [] with
  | .ok p _ => .ok (fixF p) δ
  | _ => .stk
theorem pd_call0 {k : Nat} {fa : Addr} {fd : FuncData} {x : Str} {p pos : Pos} (F : FnG X.prog X.w X.K X.mg X.base (L2.CX X.prog X.w) k fa fd [] (spD C [] 0 f)) (hG : X.A.guards = some []) (hr : Room k X.A) (hg : Gl X x) (hm : X.mg x = some (.ref fa)) (hk : PySem.W.keepIn X.K (.ref fa) = true) (hb : Binds X.K fd [] [])
    (hdb : (x == ("__debug__" : Str)) = false := by decide) : PE X (.Call (.Name x p) [] [] pos) (tD C W G (gDef0 f)) := PE.imp (pe_callG0 F hG hr hg hm hk hb (E := fun _ => E0) (fun σ pins H s e s' I c => passL pins σ H s e s' I c) hdb) fun σ H Q ⟨δ, E, p⟩ => by
  unfold gDef0 at p
  have h : Hand C G δ σ H [] [] [] [] := ⟨E, .nil, rfl, List.nodup_nil, rfl⟩
  refine ⟨[], h.F, rfl, h.in_, ?_⟩
  cases q : f [] with
  | ok p0 outs =>
    rw [q] at p
    intro v H2 af rv fr
    obtain ⟨E2, X2, o⟩ := h.after af G rfl (fun _ => Iff.rfl) (fun _ z => z) (fun _ z => .inl z) (fun a z => af.th a (E.fl a z)) (Wp := WC h.F [] []) (fun a z => (h.wc a).mpr z) af.out
    have ww : ∀ a, WW G δ σ a → WC h.F [] [] a := fun a z => (h.wc a).mpr z
    have E2 : ERel C G δ σ H2 := by simpa [itJ, setMany] using E2
    have X2 : Ext δ σ H δ σ H2 := by simpa [itJ, setMany] using X2
    refine p H2 E2 X2 v (by rw [fixF_1]; exact rv.weak ww) fun z => ?_
    obtain ⟨z1, z2, z3⟩ := fixF_2 z
    rw [fixF_1]
    obtain ⟨a, xs, es, rfl, e1, n1, e2, r1, o1⟩ | ⟨_, _, _, _, _, _, e1, _⟩ := fr z2
    case inr => exact absurd e1 (z3 _)
    obtain ⟨E3, _, _⟩ := h.after af (G.plus a) rfl (fun _ => Iff.rfl) (fun _ z => .inl z) (fun b (z : G.F b ∨ b = a) => z.imp id fun e => by rw [e]; exact n1)
      (fun b z => by
        rcases z with z | z
        · exact af.th b (E.fl b z)
        · rw [z, e2]; exact fun z => nomatch z) (Wp := fun b => WC h.F [] [] b ∨ b = a) (fun b z => by
        rcases z with (z | z) | z
        · exact .inl ((h.wc b).mpr (.inl z))
        · exact .inr z
        · exact .inl ((h.wc b).mpr (.inr z))) o1
    have E3 : ERel C (G.plus a) δ σ H2 := by simpa [itJ, setMany] using E3
    refine ⟨⟨a, xs, es, rfl, e1, fun z => E.ol a z n1, fun z => E.fl a z n1, e2, r1.weak fun b z => ?_, E3⟩, fun b e => by cases e; exact .inl n1⟩
    rcases z with (z | z) | z
    · exact .inl ((h.wc b).mpr (.inl z))
    · exact .inr z
    · exact .inl ((h.wc b).mpr (.inr z))
  | exc c xs outs => rw [q] at p; exact (show False from p).elim
  | stk => rw [q] at p; exact (show False from p).elim
end

def startD (io : List Nat) : Nat → List D → Sl
  | _, [] => []
  | i, d :: r => some (io.contains i, d) :: startD io (i + 1) r
def outsD (δ : Sl) : List Nat → Option (List D)
  | [] => some []
  | i :: r => match δ[i]? with
    | some (some (true, d)) => (outsD δ r).map (d :: ·)
    | _ => none
/-- what a def with such a body comes to: N slots -/
def bodyF (io : List Nat) (N : Nat) (g : Sl → SV) : List D → R (List D) (D × Bool) := fun ds => match g (startD io 0 ds ++ List.replicate (N - ds.length) none) with
  | .ok .nx δ => match outsD δ io with
    | some outs => .ok (.none, false) outs
    | none => .stk
  | .ok (.rt d fr) δ => match outsD δ io with
    | some outs => .ok (d, fr) outs
    | none => .stk
  | .exc c xs δ => match outsD δ io with
    | some outs => .exc c xs outs
    | none => .stk
  | _ => .stk
theorem startD_len (io : List Nat) : ∀ (ds : List D) (k : Nat), (startD io k ds).length = ds.length
  | [], _ => rfl
  | d :: r, k => by simp [startD, startD_len io r]
theorem startD_get (io : List Nat) : ∀ (ds : List D) (k i : Nat), (startD io k ds)[i]? = ds[i]?.map fun d => some (io.contains (k + i), d)
  | [], _, _ => rfl
  | d :: r, k, 0 => rfl
  | d :: r, k, i + 1 => by
    show (startD io (k + 1) r)[i]? = _
    rw [startD_get io r (k + 1) i, show k + 1 + i = k + (i + 1) by omega]
    rfl
theorem outsD_len {δ : Sl} : ∀ (io : List Nat) (outs : List D), outsD δ io = some outs → outs.length = io.length ∧ ∀ (k i : Nat), io[k]? = some i → ∃ d, outs[k]? = some d ∧ δ[i]? = some (some (true, d))
  | [], outs, h => by cases h; exact ⟨rfl, by simp⟩
  | i0 :: r, outs, h => by
    unfold outsD at h
    split at h
    · rename_i d hd
      cases q : outsD δ r with
      | none => rw [q] at h; cases h
      | some es =>
        rw [q] at h; cases h
        obtain ⟨h1, h2⟩ := outsD_len r es q
        refine ⟨by simp [h1], fun k i hk => ?_⟩
        cases k with
        | zero => have z : i0 = i := by simpa using hk
                  subst z; exact ⟨d, rfl, hd⟩
        | succ k => exact h2 k i (by simpa using hk)
    · cases h
section
variable {C : Ct} {io : List Nat} {H : Hp} {vs : List V} {ds : List PyData} {F : Addr → Prop} {N : List Str}
def G0 (F : Addr → Prop) (H : Hp) (io : List Nat) : Gh := ⟨F, fun a => H a ≠ none, io⟩
theorem start_get {i : Nat} {v : V} (h : vs[i]? = some v) : (L2.start N vs)[i]? = some (some v) := by
  have hl := (List.getElem?_eq_some_iff.mp h).1
  unfold L2.start
  rw [List.getElem?_append_left (by rw [List.length_map]; exact hl), List.getElem?_map, h]
  rfl
theorem slots_get {i : Nat} {x : Bool × D} (h : (startD io 0 ds ++ List.replicate (N.length - ds.length) none)[i]? = some (some x)) : ∃ d, ds[i]? = some d ∧ x = (io.contains i, d) := by
  by_cases hl : i < (startD io 0 ds).length
  · rw [List.getElem?_append_left hl, startD_get, Nat.zero_add] at h
    cases q : ds[i]? with
    | none => rw [q] at h; cases h
    | some d =>
      rw [q] at h
      exact ⟨d, rfl, (Option.some.inj (Option.some.inj h)).symm⟩
  · rw [List.getElem?_append_right (by omega)] at h
    obtain ⟨h1, h2⟩ := List.getElem?_eq_some_iff.mp h
    rw [List.getElem_replicate] at h2
    cases h2
theorem own_start (hlen : vs.length = ds.length) : ∀ a, Own (startD io 0 ds ++ List.replicate (N.length - ds.length) none) (L2.start N vs) a ↔ (∃ i, i < ds.length ∧ i ∈ io ∧ vs[i]? = some (.ref a)) := fun a => by
  constructor
  · rintro ⟨i, d, h1, h2⟩
    obtain ⟨d', h3, h4⟩ := slots_get (N := N) h1
    have hi : i < ds.length := (List.getElem?_eq_some_iff.mp h3).1
    have hv : ∃ v, vs[i]? = some v := ⟨_, List.getElem?_eq_getElem (hlen ▸ hi)⟩
    obtain ⟨v, hv⟩ := hv
    rw [start_get hv] at h2
    cases h2
    have z : io.contains i = true := (congrArg Prod.fst h4).symm
    exact ⟨i, hi, by simpa using z, hv⟩
  · rintro ⟨i, hi, hio, hv⟩
    refine ⟨i, ds[i], ?_, start_get hv⟩
    rw [List.getElem?_append_left (by rw [startD_len]; exact hi), startD_get, List.getElem?_eq_getElem hi, Nat.zero_add]
    simp [hio]
theorem ERel.begin (I : InR C F io vs ds H) (hN : ds.length ≤ N.length) : ERel C (G0 F H io) (startD io 0 ds ++ List.replicate (N.length - ds.length) none) (L2.start N vs) H := by
  have ow := own_start (N := N) (io := io) I.len
  have w : ∀ a, WW (G0 F H io) (startD io 0 ds ++ List.replicate (N.length - ds.length) none) (L2.start N vs) a → WC F io vs a := fun a z => z.imp id fun q => by
    obtain ⟨i, _, h1, h2⟩ := (ow a).mp q
    exact ⟨i, h1, h2⟩
  refine ⟨?_, fun i d h => ?_, fun i d h => ?_, fun i j a di dj g1 g2 g3 g4 => ?_, I.fl, fun a z => z, I.sz⟩
  · unfold L2.start
    rw [List.length_append, startD_len, List.length_replicate, List.length_append, List.length_map, List.length_replicate, I.len]
  · obtain ⟨d', h1, h2⟩ := slots_get h
    have hd : d = d' := congrArg Prod.snd h2
    subst hd
    have hi : i < vs.length := by rw [I.len]; exact (List.getElem?_eq_some_iff.mp h1).1
    have hv : vs[i]? = some vs[i] := List.getElem?_eq_getElem hi
    have hc : io.contains i = false := by
      obtain ⟨d2, h3, h4⟩ := slots_get h
      exact (congrArg Prod.fst h4).symm
    exact ⟨_, start_get hv, (I.arg i _ _ (by simpa using hc) hv h1).weak w⟩
  · obtain ⟨d', h1, h2⟩ := slots_get h
    have hc : io.contains i = true := (congrArg Prod.fst h2).symm
    have hd : d = d' := congrArg Prod.snd h2
    subst hd
    have hi : i < vs.length := by rw [I.len]; exact (List.getElem?_eq_some_iff.mp h1).1
    have hv : vs[i]? = some vs[i] := List.getElem?_eq_getElem hi
    obtain ⟨a, xs, es, r1, r2, r3, r4, r5⟩ := I.ioa i _ _ (by simpa using hc) hv h1
    rw [r1] at hv
    exact ⟨a, xs, es, start_get hv, r2, r3, r4.weak w, r5, fun n => absurd (show i ∈ io by simpa using hc) n⟩
  · obtain ⟨d1, h1, h2⟩ := slots_get g1
    obtain ⟨d2, h3, h4⟩ := slots_get g2
    have hi : vs[i]? = some (.ref a) := by
      have hl : i < vs.length := by rw [I.len]; exact (List.getElem?_eq_some_iff.mp h1).1
      have q : vs[i]? = some vs[i] := List.getElem?_eq_getElem hl
      have z := start_get (N := N) q
      rw [g3] at z
      rw [q, ← Option.some.inj (Option.some.inj z)]
    have hj : vs[j]? = some (.ref a) := by
      have hl : j < vs.length := by rw [I.len]; exact (List.getElem?_eq_some_iff.mp h3).1
      have q : vs[j]? = some vs[j] := List.getElem?_eq_getElem hl
      have z := start_get (N := N) q
      rw [g4] at z
      rw [q, ← Option.some.inj (Option.some.inj z)]
    have c1 : io.contains i = true := (congrArg Prod.fst h2).symm
    have c2 : io.contains j = true := (congrArg Prod.fst h4).symm
    exact I.inj i j a (by simpa using c1) (by simpa using c2) hi hj
/-- what the body's end says of the caller's side -/
theorem aft_of {δ : Sl} {σ : St} {H' : Hp} {outs : List PyData} (I : InR C F io vs ds H) (hN : ds.length ≤ N.length) (hiol : ∀ i ∈ io, i < ds.length) (Gp : Gh) (hio : Gp.io = io) (E : ERel C Gp δ σ H')
    (X : Ext (startD io 0 ds ++ List.replicate (N.length - ds.length) none) (L2.start N vs) H δ σ H') (k : ∀ i ∈ io, σ[i]? = (L2.start N vs)[i]?) (ho : outsD δ io = some outs) : (∀ a, IoA io vs a → Own δ σ a) ∧
    ∀ Wp : Addr → Prop, (∀ a, Wp a → WW Gp δ σ a) → OutR C Wp io vs outs H' := by
  obtain ⟨h1, h2⟩ := outsD_len io outs ho
  refine ⟨fun a ⟨i, hi, hv⟩ => ?_, fun Wp hw => ⟨h1, fun kk i a hk hv => ?_⟩⟩
  · obtain ⟨kk, hk⟩ := List.getElem?_of_mem hi
    obtain ⟨d, g1, g2⟩ := h2 kk i hk
    exact ⟨i, d, g2, by rw [k i hi, start_get hv]⟩
  · obtain ⟨d, g1, g2⟩ := h2 kk i hk
    obtain ⟨b, xs, es, r1, r2, r3, r4, _⟩ := E.ow i d g2
    rw [k i (List.mem_of_getElem? hk), start_get hv] at r1
    cases r1
    exact ⟨xs, es, by rw [g1, r2], r3, r4.weak hw⟩
/-- THE RULE for a def -/
theorem fnD {P : Program} {w : World} {K : PySem.W.Frag} {mg : Str → Option Value} {base : Heap} {x qual : Str} {st : Stmt} {fa : Addr} {fd : FuncData} {ps : List Str} {k : Nat} {g : Sl → SV} (Fn : Fun K x qual st fa fd) (S : FnScope N ps (defScope st)) (hps : ps.length ≤ N.length) (hiol : ∀ i ∈ io, i < ps.length)
    (hb : ∀ (cdv : Value) (A : Around) (outer : List Env) (s : Shared) (H : Hp) (E : XK) (G : Gh), G.io = io → Room k (A.deeper (envOfC qual (defScope st) s.heap.objs.size fa cdv)) → A.guards = some [] →
      PSs (cxOf (L2.CX P w) P w K mg base N qual (defScope st) fa cdv A outer s H E) (defBody st) (tS C (fun cls d _ H' => E cls d H') G g)) :
    FnG P w K mg base (L2.CX P w) (k + 1) fa fd ps (spD C io ps.length (bodyF io N.length g)) := by
  refine fn_body Fn S (fun vs H Q E h => ?_) (fun cdv A outer s H vs Q E hG hr h => ?_)
  · obtain ⟨ds, F, h1, _⟩ := h
    exact h1
  · obtain ⟨ds, F, hn, I, p⟩ := h
    refine ⟨_, hb cdv A outer s H E (G0 F H io) rfl hr hG, ?_⟩
    have hdl : ds.length = ps.length := by rw [← I.len, hn]
    have hN : ds.length ≤ N.length := by rw [hdl]; exact hps
    refine ⟨_, ERel.begin (N := N) I hN, ?_⟩
    have ow := own_start (N := N) (io := io) I.len
    unfold bodyF at p
    have aft : ∀ {δ σ H' outs}, ERel C (G0 F H io) δ σ H' → Ext (startD io 0 ds ++ List.replicate (N.length - ds.length) none) (L2.start N vs) H δ σ H' → IoK (G0 F H io) (L2.start N vs) σ → outsD δ io = some outs → Aft C F io vs H H' outs ∧ ∀ a, WC F io vs a → WW (G0 F H io) δ σ a := fun {δ σ H' outs} E' X' i' ho => by
      obtain ⟨a1, a2⟩ := aft_of I hN (fun i hi => by rw [hdl]; exact hiol i hi) (G0 F H io) rfl E' X' i' ho
      have w : ∀ a, WC F io vs a → WW (G0 F H io) δ σ a := fun a z => z.imp id fun q => a1 a q
      exact ⟨⟨fun a o e n => X'.kp a o e fun z => n (by obtain ⟨i, _, h1, h2⟩ := (ow a).mp z; exact ⟨i, h1, h2⟩), X'.th, E'.sz, a2 _ w⟩, w⟩
    cases q : g (startD io 0 ds ++ List.replicate (N.length - ds.length) none) with
    | stk => rw [q] at p; exact (show False from p).elim
    | exc c xs δ =>
      rw [q] at p
      intro cls dct σ H' E' X' i' ev
      dsimp only at p
      split at p
      · rename_i outs ho
        obtain ⟨af, w⟩ := aft E' X' i' ho
        exact p cls dct H' af ⟨ev.1, ev.2.imp id fun ⟨dd, v, d, h1, h2, h3, h4⟩ => ⟨dd, v, d, h1, h2, h3, h4.weak w⟩⟩
      · exact (show False from p).elim
    | ok fl δ =>
      rw [q] at p
      cases fl with
      | bk => exact (show False from p).elim
      | ct => exact (show False from p).elim
      | nx =>
        intro σ H' E' X' i'
        dsimp only at p
        split at p
        · rename_i outs ho
          obtain ⟨af, w⟩ := aft E' X' i' ho
          exact p .non H' af .non fun z => nomatch z
        · exact (show False from p).elim
      | rt d fr =>
        intro σ H' E' X' i' v rv f
        dsimp only at p
        split at p
        · rename_i outs ho
          obtain ⟨af, w⟩ := aft E' X' i' ho
          refine p v H' af (rv.weak w) fun z => ?_
          have w2 : ∀ {a}, ∀ b, (WC F io vs b ∨ b = a) → WW ((G0 F H io).plus a) δ σ b := fun {a} b z => by
            obtain ⟨a1, a2⟩ := aft_of I hN (fun i hi => by rw [hdl]; exact hiol i hi) (G0 F H io) rfl E' X' i' ho
            rcases z with (z | z) | z
            · exact .inl (.inl z)
            · exact .inr (a1 b z)
            · exact .inl (.inr z)
          have hn : ∀ {a}, ¬ (G0 F H io).Old a → H a = none := fun {a} n1 => by
            cases q2 : H a with
            | none => rfl
            | some o => exact absurd (show H a ≠ none by rw [q2]; exact fun z => nomatch z) n1
          rcases f z with ⟨a, xs, es, e1, e2, n1, n2, e3, r1, E2⟩ | ⟨t, n, a, xs, es, e1, e2, st, n1, n2, e3, r1, E2⟩
          · subst e1
            obtain ⟨a1, a2⟩ := aft_of I hN (fun i hi => by rw [hdl]; exact hiol i hi) ((G0 F H io).plus a) rfl E2 X' i' ho
            exact .inl ⟨a, xs, es, rfl, e2, hn n1, e3, r1.weak w2, a2 _ w2⟩
          · subst e1
            obtain ⟨a1, a2⟩ := aft_of I hN (fun i hi => by rw [hdl]; exact hiol i hi) ((G0 F H io).plus a) rfl E2 X' i' ho
            exact .inr ⟨t, n, a, xs, es, rfl, e2, st, hn n1, e3, r1.weak w2, a2 _ w2⟩
        · exact (show False from p).elim
end
end DL

namespace DL
open PySem PySem.Spec L2
open PyProof.Rows hiding St

def gUn (f : D → Option (D × Bool)) (ga : Sl → EV) : Sl → EV := fun δ => (ga δ).bind fun x δ1 => fin (f x.1) δ1
def dNeg : D → Option (D × Bool)
  | .int i => some (.int (-i), false)
  | _ => none
/-- two values, one behind the other, both as new as they come -/
def gPair (ga gb : Sl → EV) : Sl → R Sl ((D × Bool) × (D × Bool)) := fun δ => (ga δ).bind fun x δ1 => (gb δ1).bind fun y δ2 => .ok (x, y) δ2
def sPar (io : List Nat) (i j : Nat) (ga gb : Sl → EV) : Sl → SV := fun δ => (gPair ga gb δ).bind fun z δ1 => match setSlot io i (some (z.1.2, z.1.1)) δ1 with
  | some δ2 => match setSlot io j (some (z.2.2, z.2.1)) δ2 with
    | some δ3 => .ok .nx δ3
    | none => .stk
  | none => .stk
def sRaise (c : Nat) : Sl → SV := fun δ => .exc c [] δ
section
variable {C : Ct} {W : WX} {G : Gh} {δ δ1 : Sl} {σ : St} {H H1 : Hp} {X : Cx} {a b e : Expr} {ga gb : Sl → EV} {pos : Pos}
theorem ERel.notOwn' {p : Addr} (E : ERel C G δ σ H) (hF : G.F p) : ¬ Own δ σ p := E.notOwn hF
theorem pd_neg (ha : PE X a (tD C W G ga)) : PE X (.UnaryOp .USub a pos) (tD C W G (gUn dNeg ga)) := PE.imp (pe_un un_neg ha) fun σ H Q ⟨δ, E, p⟩ =>
  ⟨δ, E, (Post.bind p).imp fun x δ1 H1 E1 X1 p1 v rv _ => by
    obtain ⟨d, fr⟩ := x
    cases d <;> first | exact (show False from p1).elim | skip
    cases rv
    exact ⟨_, rfl, now E1 p1 _ (.int _) fun z => nomatch z⟩⟩
theorem ERel.congrF {G' : Gh} (E : ERel C G δ σ H) (hF : ∀ b, G'.F b ↔ G.F b) (ho : G'.Old = G.Old) (hi : G'.io = G.io) : ERel C G' δ σ H := by
  have w : ∀ b, WW G' δ σ b → WW G δ σ b := fun b z => z.imp (hF b).mp id
  refine ⟨E.len, fun i d h => ?_, fun i d h => ?_, E.inj, fun b z => E.fl b ((hF b).mp z), fun b z => E.ol b (by rw [← ho]; exact z), E.sz⟩
  · obtain ⟨v, h1, h2⟩ := E.sh i d h
    exact ⟨v, h1, h2.weak w⟩
  · obtain ⟨c, xs, ds, h1, h2, h3, h4, h5, h6⟩ := E.ow i d h
    exact ⟨c, xs, ds, h1, h2, h3, h4.weak w, fun z => h5 ((hF c).mp z), fun n => by rw [ho]; exact h6 (by rw [← hi]; exact n)⟩
/-- the value that a slot gets: data, or a list that nothing else has -/
def Got (C : Ct) (G : Gh) (Wd : Addr → Prop) (H : Hp) (v : V) (x : PyData × Bool) : Prop :=
  (x.2 = false → Rep C Wd H v x.1) ∧ (x.2 = true → ∃ a xs ds, v = .ref a ∧ x.1 = .list ds ∧ ¬ G.Old a ∧ ¬ G.F a ∧ H a = some (.lst xs) ∧ RepL C Wd H xs ds)
theorem store2 {i j : Nat} {v w : V} {x y : PyData × Bool} {δ0 : Sl} {H0 : Hp} {GG : Gh} (hij : i ≠ j) (hi : i < δ.length) (hj : j < δ.length) (ni : i ∉ G.io) (nj : j ∉ G.io) (hF : ∀ b, GG.F b ↔ G.F b ∨ (x.2 = true ∧ v = .ref b) ∨ (y.2 = true ∧ w = .ref b)) (hO : GG.Old = G.Old) (hI : GG.io = G.io) (E : ERel C GG δ σ H) (X0 : Ext δ0 σ H0 δ σ H)
    (gv : Got C G (WW GG δ σ) H v x) (gw : Got C G (WW GG δ σ) H w y) (dj : ∀ b, x.2 = true → y.2 = true → v = .ref b → w = .ref b → False) (nv : x.2 = true → ∀ b, v = .ref b → H0 b = none ∨ Own δ0 σ b) (nw : y.2 = true → ∀ b, w = .ref b → H0 b = none ∨ Own δ0 σ b) :
    ERel C G ((δ.set i (some (x.2, x.1))).set j (some (y.2, y.1))) ((σ.set i (some v)).set j (some w)) H ∧ Ext δ0 σ H0 ((δ.set i (some (x.2, x.1))).set j (some (y.2, y.1))) ((σ.set i (some v)).set j (some w)) H ∧ IoK G σ ((σ.set i (some v)).set j (some w)) := by
  have dl : (δ.set i (some (x.2, x.1))).length = δ.length := List.length_set
  have sl : (σ.set i (some v)).length = σ.length := List.length_set
  have hi' : i < σ.length := E.len ▸ hi
  have hj' : j < σ.length := E.len ▸ hj
  -- the slots behind the stores
  have at_ : ∀ k, (k = j ∧ ((δ.set i (some (x.2, x.1))).set j (some (y.2, y.1)))[k]? = some (some (y.2, y.1)) ∧ ((σ.set i (some v)).set j (some w))[k]? = some (some w)) ∨
      (k = i ∧ ((δ.set i (some (x.2, x.1))).set j (some (y.2, y.1)))[k]? = some (some (x.2, x.1)) ∧ ((σ.set i (some v)).set j (some w))[k]? = some (some v)) ∨
      (k ≠ i ∧ k ≠ j ∧ ((δ.set i (some (x.2, x.1))).set j (some (y.2, y.1)))[k]? = δ[k]? ∧ ((σ.set i (some v)).set j (some w))[k]? = σ[k]?) := fun k => by
    by_cases e1 : k = j
    · subst e1
      exact .inl ⟨rfl, List.getElem?_set_self (by rw [dl]; exact hj), List.getElem?_set_self (by rw [sl]; exact hj')⟩
    · by_cases e2 : k = i
      · subst e2
        refine .inr (.inl ⟨rfl, ?_, ?_⟩)
        · rw [List.getElem?_set_ne (Ne.symm e1)]; exact List.getElem?_set_self hi
        · rw [List.getElem?_set_ne (Ne.symm e1)]; exact List.getElem?_set_self hi'
      · refine .inr (.inr ⟨e2, e1, ?_, ?_⟩)
        · rw [List.getElem?_set_ne (Ne.symm e1), List.getElem?_set_ne (Ne.symm e2)]
        · rw [List.getElem?_set_ne (Ne.symm e1), List.getElem?_set_ne (Ne.symm e2)]
  have ow : ∀ b, Own ((δ.set i (some (x.2, x.1))).set j (some (y.2, y.1))) ((σ.set i (some v)).set j (some w)) b → Own δ σ b ∨ (x.2 = true ∧ v = .ref b) ∨ (y.2 = true ∧ w = .ref b) := fun b ⟨k, d, h1, h2⟩ => by
    rcases at_ k with ⟨_, q1, q2⟩ | ⟨_, q1, q2⟩ | ⟨_, _, q1, q2⟩
    · rw [q1] at h1; rw [q2] at h2
      exact .inr (.inr ⟨congrArg Prod.fst (Option.some.inj (Option.some.inj h1)), Option.some.inj (Option.some.inj h2)⟩)
    · rw [q1] at h1; rw [q2] at h2
      exact .inr (.inl ⟨congrArg Prod.fst (Option.some.inj (Option.some.inj h1)), Option.some.inj (Option.some.inj h2)⟩)
    · rw [q1] at h1; rw [q2] at h2
      exact .inl ⟨k, d, h1, h2⟩
  have ww : ∀ b, WW G ((δ.set i (some (x.2, x.1))).set j (some (y.2, y.1))) ((σ.set i (some v)).set j (some w)) b → WW GG δ σ b := fun b z => by
    rcases z with z | z
    · exact .inl ((hF b).mpr (.inl z))
    · rcases ow b z with q | q
      · exact .inr q
      · exact .inl ((hF b).mpr (.inr q))
  have noO : ∀ b, (x.2 = true ∧ v = .ref b) ∨ (y.2 = true ∧ w = .ref b) → ¬ Own δ σ b := fun b q => E.notOwn' ((hF b).mpr (.inr q))
  refine ⟨⟨by rw [List.length_set, List.length_set, List.length_set, List.length_set]; exact E.len, fun k d h => ?_, fun k d h => ?_, fun k k' b d1 d2 g1 g2 g3 g4 => ?_, fun b z => E.fl b ((hF b).mpr (.inl z)), fun b z => E.ol b (by rw [hO]; exact z), E.sz⟩, ⟨X0.kp, X0.th, fun b z => ?_⟩, fun k hk => ?_⟩
  · rcases at_ k with ⟨_, q1, q2⟩ | ⟨_, q1, q2⟩ | ⟨_, _, q1, q2⟩
    · rw [q1] at h
      have z := Option.some.inj (Option.some.inj h)
      have z1 : y.2 = false := congrArg Prod.fst z
      have z2 : y.1 = d := congrArg Prod.snd z
      exact ⟨w, q2, z2 ▸ (gw.1 z1).weak ww⟩
    · rw [q1] at h
      have z := Option.some.inj (Option.some.inj h)
      have z1 : x.2 = false := congrArg Prod.fst z
      have z2 : x.1 = d := congrArg Prod.snd z
      exact ⟨v, q2, z2 ▸ (gv.1 z1).weak ww⟩
    · rw [q1] at h
      obtain ⟨u, r1, r2⟩ := E.sh k d h
      exact ⟨u, by rw [q2]; exact r1, r2.weak ww⟩
  · rcases at_ k with ⟨_, q1, q2⟩ | ⟨_, q1, q2⟩ | ⟨_, _, q1, q2⟩
    · rw [q1] at h
      have z := Option.some.inj (Option.some.inj h)
      obtain ⟨a, xs, ds, e1, e2, n1, n2, e3, r⟩ := gw.2 (congrArg Prod.fst z)
      have z2 : y.1 = d := congrArg Prod.snd z
      exact ⟨a, xs, ds, by rw [q2, e1], by rw [← z2, e2], e3, r.weak ww, n2, fun _ => n1⟩
    · rw [q1] at h
      have z := Option.some.inj (Option.some.inj h)
      obtain ⟨a, xs, ds, e1, e2, n1, n2, e3, r⟩ := gv.2 (congrArg Prod.fst z)
      have z2 : x.1 = d := congrArg Prod.snd z
      exact ⟨a, xs, ds, by rw [q2, e1], by rw [← z2, e2], e3, r.weak ww, n2, fun _ => n1⟩
    · rw [q1] at h
      obtain ⟨b, ys, es, r1, r2, r3, r4, r5, r6⟩ := E.ow k d h
      exact ⟨b, ys, es, by rw [q2]; exact r1, r2, r3, r4.weak ww, fun z => r5 ((hF b).mpr (.inl z)), fun n => by rw [← hO]; exact r6 (by rw [hI]; exact n)⟩
  · -- two own slots with one list
    have key : ∀ {k d}, ((δ.set i (some (x.2, x.1))).set j (some (y.2, y.1)))[k]? = some (some (true, d)) → ((σ.set i (some v)).set j (some w))[k]? = some (some (.ref b)) →
        (k = j ∧ y.2 = true ∧ w = .ref b) ∨ (k = i ∧ x.2 = true ∧ v = .ref b) ∨ (∃ d, δ[k]? = some (some (true, d)) ∧ σ[k]? = some (some (.ref b))) := fun {k d} h1 h2 => by
      rcases at_ k with ⟨e, q1, q2⟩ | ⟨e, q1, q2⟩ | ⟨_, _, q1, q2⟩
      · rw [q1] at h1; rw [q2] at h2
        exact .inl ⟨e, congrArg Prod.fst (Option.some.inj (Option.some.inj h1)), Option.some.inj (Option.some.inj h2)⟩
      · rw [q1] at h1; rw [q2] at h2
        exact .inr (.inl ⟨e, congrArg Prod.fst (Option.some.inj (Option.some.inj h1)), Option.some.inj (Option.some.inj h2)⟩)
      · rw [q1] at h1; rw [q2] at h2
        exact .inr (.inr ⟨d, h1, h2⟩)
    rcases key g1 g3 with ⟨e1, a1, a2⟩ | ⟨e1, a1, a2⟩ | ⟨d1', a1, a2⟩
    · rcases key g2 g4 with ⟨e2, b1, b2⟩ | ⟨e2, b1, b2⟩ | ⟨d2', b1, b2⟩
      · rw [e1, e2]
      · exact (dj b b1 a1 b2 a2).elim
      · exact absurd ⟨k', d2', b1, b2⟩ (noO b (.inr ⟨a1, a2⟩))
    · rcases key g2 g4 with ⟨e2, b1, b2⟩ | ⟨e2, b1, b2⟩ | ⟨d2', b1, b2⟩
      · exact (dj b a1 b1 a2 b2).elim
      · rw [e1, e2]
      · exact absurd ⟨k', d2', b1, b2⟩ (noO b (.inl ⟨a1, a2⟩))
    · rcases key g2 g4 with ⟨e2, b1, b2⟩ | ⟨e2, b1, b2⟩ | ⟨d2', b1, b2⟩
      · exact absurd ⟨k, d1', a1, a2⟩ (noO b (.inr ⟨b1, b2⟩))
      · exact absurd ⟨k, d1', a1, a2⟩ (noO b (.inl ⟨b1, b2⟩))
      · exact E.inj k k' b d1' d2' a1 b1 a2 b2
  · rcases ow b z with q | q | q
    · exact X0.own b q
    · exact (nv q.1 b q.2).symm
    · exact (nw q.1 b q.2).symm
  · rcases at_ k with ⟨e, _⟩ | ⟨e, _⟩ | ⟨_, _, _, q2⟩
    · exact absurd (e ▸ hk) nj
    · exact absurd (e ▸ hk) ni
    · exact q2
end
section
variable {C : Ct} {W : WX} {G : Gh} {δ δ1 : Sl} {σ : St} {H H1 : Hp} {X : Cx} {a b e : Expr} {ga gb : Sl → EV} {pos : Pos} {io : List Nat}
def tDw (C : Ct) (W : WX) (io : List Nat) (g : Sl → EV) : TE := fun σ H Q => ∃ G, G.io = io ∧ tD C W G g σ H Q
theorem psd_par {i j : Nat} {x y : Str} {px py pt : Pos} {kt k2 pt2} (hio : G.io = io) (hc : X.calm = true) (hN : X.N.Nodup) (hi : X.N[i]? = some x) (hj : X.N[j]? = some y) (hij : i ≠ j)
    (hx : X.env.scope.names.lookup x = some .local) (hy : X.env.scope.names.lookup y = some .local) (ha : PE X a (tD C W G ga)) (hb : ∀ G', G'.io = io → PE X b (tD C W G' gb))
    (hw : swappedStores [.Tuple [.Name x px, .Name y py] kt pt] (.Tuple [a, b] k2 pt2) X.env = pure (some [x, y]))
    (hs : swapsWithSole [.Tuple [.Name x px, .Name y py] kt pt] (.Tuple [a, b] k2 pt2) pos.line X.env = pure false := by rfl)
    (na : starEach [a, b] X.env = (false, eval a X.env) :: starEach [b] X.env := by rfl) (nb : starEach [b] X.env = (false, eval b X.env) :: starEach [] X.env := by rfl) :
    PS X (.Assign [.Tuple [.Name x px, .Name y py] kt pt] (.Tuple [a, b] k2 pt2) pos) (tS C W G (sPar G.io i j ga gb)) := by
  have hb' : PE X b (tDw C W io gb) := ⟨fun pins s σ H Q I ⟨G', h1, h2⟩ => (hb G' h1).run pins s σ H Q I h2⟩
  refine PS.imp (ps_par hc hN hi hj hij hx hy (pa_cons ha (pa_cons hb' pa_nil nb) na) hw hs) fun D σ H ⟨δ, E, p⟩ => ⟨δ, E, ?_⟩
  unfold sPar gPair at p
  cases q1 : ga δ with
  | exc c xs d => rw [q1] at p; exact fun cls dct H' E' X' v => p cls dct σ H' E' X' IoK.refl v
  | stk => rw [q1] at p; exact p
  | ok u δ1 =>
  rw [q1] at p
  intro H1 E1 X1 v rv fv
  -- the second value is reckoned while the first list, if new, is nobody's
  have go : ∀ G1 : Gh, G1.io = io → G1.Old = G.Old → (∀ b, G1.F b ↔ G.F b ∨ (u.2 = true ∧ v = .ref b)) → ERel C G1 δ1 σ H1 → Got C G (WW G1 δ1 σ) H1 v u →
      tDw C W io gb σ H1 fun w H2 => ∃ v' w', [v, w] = [v', w'] ∧ D.nx ((σ.set i (some v')).set j (some w')) H2 := fun G1 h1 hO1 hF1 F1 gv => by
    refine ⟨G1, h1, δ1, F1, ?_⟩
    have p2 : PostS C W G δ σ H D (((gb δ1).bind fun y δ2 => (.ok (u, y) δ2 : R Sl ((PyData × Bool) × (PyData × Bool)))).bind fun z δ1 => match setSlot G.io i (some (z.1.2, z.1.1)) δ1 with
      | some δ2 => match setSlot G.io j (some (z.2.2, z.2.1)) δ2 with
        | some δ3 => .ok .nx δ3
        | none => .stk
      | none => .stk) := p
    cases q2 : gb δ1 with
    | exc c xs d =>
      rw [q2] at p2
      intro cls dct H2 E2 X2 ev
      have wk : ∀ b, WW G d σ b → WW G1 d σ b := fun b z => z.imp (fun q => (hF1 b).mpr (.inl q)) id
      have E2' : ERel C G d σ H2 := by
        refine ⟨E2.len, fun k e h => ?_, fun k e h => ?_, E2.inj, fun b z => E2.fl b ((hF1 b).mpr (.inl z)), fun b z => E2.ol b (by rw [hO1]; exact z), E2.sz⟩
        · obtain ⟨t, r1, r2⟩ := E2.sh k e h
          exact ⟨t, r1, r2.weak wk⟩
        · obtain ⟨b, ys, es, r1, r2, r3, r4, r5, r6⟩ := E2.ow k e h
          exact ⟨b, ys, es, r1, r2, r3, r4.weak wk, fun z => r5 ((hF1 b).mpr (.inl z)), fun n => by rw [← hO1]; exact r6 (by rw [h1, ← hio]; exact n)⟩
      exact p2 cls dct σ H2 E2' (X1.trans X2) IoK.refl ⟨ev.1, ev.2.imp id fun ⟨dd, v, d, g1, g2, g3, g4⟩ => ⟨dd, v, d, g1, g2, g3, g4.weak wk⟩⟩
    | stk => rw [q2] at p2; exact (show False from p2).elim
    | ok t δ2 =>
    rw [q2] at p2
    have p2 : PostS C W G δ σ H D (match setSlot G.io i (some (u.2, u.1)) δ2 with
      | some δ2 => match setSlot G.io j (some (t.2, t.1)) δ2 with
        | some δ3 => .ok .nx δ3
        | none => .stk
      | none => .stk) := p2
    intro H2 E2 X2 w rw_ fw
    refine ⟨v, w, rfl, ?_⟩
    have set_ok : ∀ {k : Nat} {z : Option (Bool × PyData)} {δa δb : Sl}, setSlot G.io k z δa = some δb → k < δa.length ∧ k ∉ G.io ∧ δb = δa.set k z := fun {k z δa δb} q => by
      unfold setSlot at q
      split at q
      · cases q
      · rename_i hn
        rw [Bool.or_eq_true, not_or] at hn
        have hk := hn.2
        simp at hk
        exact ⟨hk, by simpa using hn.1, (Option.some.inj q).symm⟩
    cases s1 : setSlot G.io i (some (u.2, u.1)) δ2 with
    | none => rw [s1] at p2; exact (show False from p2).elim
    | some δ3 =>
    rw [s1] at p2
    dsimp only at p2
    cases s2 : setSlot G.io j (some (t.2, t.1)) δ3 with
    | none => rw [s2] at p2; exact (show False from p2).elim
    | some δ4 =>
    rw [s2] at p2
    obtain ⟨hi2, ni, rfl⟩ := set_ok s1
    obtain ⟨hj2, nj, rfl⟩ := set_ok s2
    rw [List.length_set] at hj2
    -- the ghost with both
    have fin : ∀ GG : Gh, GG.Old = G.Old → GG.io = G.io → (∀ b, GG.F b ↔ G.F b ∨ (u.2 = true ∧ v = .ref b) ∨ (t.2 = true ∧ w = .ref b)) → ERel C GG δ2 σ H2 → (∀ b, WW GG δ2 σ b → WW G1 δ1 σ b ∨ H1 b = none) → Got C G (WW GG δ2 σ) H2 w t → (∀ b, t.2 = true → w = .ref b → H1 b = none ∨ Own δ1 σ b) → D.nx ((σ.set i (some v)).set j (some w)) H2 := fun GG hO hI hF EE ww gw nw => by
      have gv2 : Got C G (WW GG δ2 σ) H2 v u := ⟨fun z => (gv.1 z).move X2.kp (fun _ z => .inr z) ww, fun z => by
        obtain ⟨a, xs, ds, e1, e2, n1, n2, e3, r⟩ := gv.2 z
        have na : ¬ Own δ1 σ a := F1.notOwn' ((hF1 a).mpr (.inr ⟨z, e1⟩))
        exact ⟨a, xs, ds, e1, e2, n1, n2, X2.kp a _ e3 fun q => absurd q na, r.move X2.kp (fun _ z => .inr z) ww⟩⟩
      obtain ⟨E3, X3, I3⟩ := store2 (i := i) (j := j) (x := u) (y := t) hij hi2 hj2 ni nj hF hO hI EE (X1.trans X2) gv2 gw (fun b z1 z2 e1 e2 => by
        rcases nw b z2 e2 with q | q
        · obtain ⟨a, xs, ds, g1, _, _, _, g2, _⟩ := gv.2 z1
          rw [e1] at g1; cases g1
          rw [q] at g2; cases g2
        · exact F1.notOwn' ((hF1 b).mpr (.inr ⟨z1, e1⟩)) q) (fun z b e => (fv z).2 b e) (fun z b e => X1.back (nw b z e))
      exact p2 _ _ E3 X3 I3
    by_cases ht : t.2 = true
    · obtain ⟨⟨a2, xs2, ds2, e1, e2, n1, n2, e3, r2, F2⟩, nw⟩ := fw ht
      refine fin (G1.plus a2) hO1 (h1.trans hio.symm) (fun b => ?_) F2 (fun b z => ?_) ⟨fun z => (by rw [ht] at z; cases z), fun _ => ⟨a2, xs2, ds2, e1, e2, by rw [← hO1]; exact n1, fun z => n2 ((hF1 a2).mpr (.inl z)), e3, r2⟩⟩ fun b _ e => nw b e
      · constructor
        · rintro (z | z)
          · exact ((hF1 b).mp z).imp id .inl
          · exact .inr (.inr ⟨ht, by rw [z]; exact e1⟩)
        · rintro (z | z | z)
          · exact .inl ((hF1 b).mpr (.inl z))
          · exact .inl ((hF1 b).mpr (.inr z))
          · exact .inr (by have q := z.2; rw [e1] at q; cases q; rfl)
      · rcases z with (z | z) | z
        · exact .inl (.inl z)
        · rw [z]
          exact (nw a2 e1).symm.imp .inr id
        · exact (X2.own b z).imp .inr id
    · have ht' : t.2 = false := by simpa using ht
      refine fin G1 hO1 (h1.trans hio.symm) (fun b => ?_) E2 (fun b z => z.elim (fun q => .inl (.inl q)) fun q => (X2.own b q).imp .inr id) ⟨fun _ => rw_, fun z => absurd z ht⟩ fun b z => absurd z ht
      constructor
      · intro z
        exact ((hF1 b).mp z).imp id .inl
      · rintro (z | z | z)
        · exact (hF1 b).mpr (.inl z)
        · exact (hF1 b).mpr (.inr z)
        · exact absurd z.1 ht
  by_cases hu : u.2 = true
  · obtain ⟨⟨a, xs, ds, e1, e2, n1, n2, e3, r, F1⟩, nn⟩ := fv hu
    refine go (G.plus a) hio rfl (fun b => ?_) F1 ⟨fun z => (by rw [hu] at z; cases z), fun _ => ⟨a, xs, ds, e1, e2, n1, n2, e3, r⟩⟩
    constructor
    · rintro (z | z)
      · exact .inl z
      · exact .inr ⟨hu, by rw [z]; exact e1⟩
    · rintro (z | z)
      · exact .inl z
      · exact .inr (by have q := z.2; rw [e1] at q; cases q; rfl)
  · refine go G hio rfl (fun b => ?_) E1 ⟨fun _ => rv, fun z => absurd z hu⟩
    constructor
    · exact fun z => .inl z
    · rintro (z | z)
      · exact z
      · exact absurd z.1 hu
/-- raise X("..") -/
theorem psd_raise {c : Nat} (h : PS X (.Raise (some e) none pos) (fun _ σ H => W (.ref (C.cl c)) none σ H)) : PS X (.Raise (some e) none pos) (tS C W G (sRaise c)) := PS.imp h fun D σ H ⟨δ, E, p⟩ => p _ none σ H E Ext.refl IoK.refl ⟨rfl, .inl ⟨rfl, rfl⟩⟩
/-- a constant of the module: a tuple of texts, an int -/
theorem rep_strs {K : PySem.W.Frag} {Wd : Addr → Prop} : ∀ xs : List Str, RepL C Wd H (xs.map V.str) (xs.map PyData.str)
  | [] => .nil
  | x :: xs => .cons (.str x) (rep_strs (K := K) xs)
end
end DL

namespace DL
open PySem PySem.Spec L2
open PyProof.Rows hiding St

abbrev TM := Str → TS
structure PM (X : Cx) (cs : List MatchCase) (t : TM) : Prop where
  run : ∀ (pins : List (Addr × Obj)) (s : Shared) (σ : St) (H : Hp) (D : Ends) (x : Str) (tk : Tok) (first : Bool), Inv X pins σ H s → t x D σ H → wpAny (model X.prog X.w) X.A (matchCases cs X.env (.str x tk) first) (SP X pins D) X.xe s
section
variable {X : Cx} {cs rest : List MatchCase} {body : List Stmt} {tb : TS} {tr : TM}
theorem pm_any {p : Pos} (hb : PSs X body tb) : PM X [⟨.MatchAs none none p, none, body⟩] (fun _ => tb) := ⟨fun pins s σ H D x tk first I h => by
  refine wpAny_matchCases_cons (wpAny_matchPattern_Capture ?_)
  exact wpAny_assignInOrder_none (hb.run pins s σ H D I h)⟩
theorem pm_nil : PM X [] (fun _ D σ H => D.nx σ H) := ⟨fun pins s σ H D x tk first I h => wpAny_matchCases_nil ((pss_nil (X := X)).run pins s σ H D I h |> fun _ => ⟨σ, H, I, h⟩)⟩
theorem pm_case {lit : Str} {j : Nat} {p1 p2 : Pos} (hb : PSs X body tb) (hr : PM X rest tr) : PM X (⟨.MatchValue (.Constant (.str lit) j p1) p2, none, body⟩ :: rest) (fun x D σ H => if x = lit then tb D σ H else tr x D σ H) := ⟨fun pins s σ H D x tk first I h => by
  refine wpAny_matchCases_cons (wpAny_matchPattern_Value ?_)
  refine thn ((pe_str (X := X) (x := lit) (j := j) (pos := p1)).run pins s σ H (fun v H1 => v = V.str lit ∧ H1 = H) I ⟨rfl, rfl⟩) fun u s1 ⟨v, H1, I1, r1, ev, eH⟩ => ?_
  subst ev
  rw [eH] at I1
  refine thn (op_eq pins s1 σ H (.str x) (.str lit) (.str x tk) u (fun z H2 => z = V.bl (decide (x = lit)) ∧ H2 = H) I1 ⟨tk, rfl⟩ r1 ⟨rfl, by simp [dec_str], rfl⟩) fun c s2 ⟨z, H2, I2, r2, ez, eH2⟩ => ?_
  subst ez
  rw [eH2] at I2
  cases r2
  refine wpAny_truthy_bool ?_
  by_cases e : x = lit
  · rw [if_pos e] at h
    rw [decide_eq_true e]
    exact wpAny_assignInOrder_none (hb.run pins s2 σ H D I2 h)
  · rw [if_neg e] at h
    rw [decide_eq_false e]
    exact hr.run pins s2 σ H D x tk false I2 h⟩
theorem ps_matchS {a : Expr} {ta : TE} {pos : Pos} (ha : PE X a ta) (hm : PM X cs tr) : PS X (.Match a cs pos) (fun D σ H => ta σ H fun v H1 => ∃ x, v = .str x ∧ tr x D σ H1) := ⟨fun pins s σ H D I h => by
  refine wpAny_Match (thn (ha.run pins s σ H _ I h) fun u s1 ⟨v, H1, I1, r1, x, ev, q⟩ => ?_)
  subst ev
  obtain ⟨tk, rfl⟩ := r1
  exact hm.run pins s1 σ H1 D x tk true I1 q⟩
end
def mAny (g : Sl → SV) : Str → Sl → SV := fun _ => g
def mCase (lit : Str) (g : Sl → SV) (r : Str → Sl → SV) : Str → Sl → SV := fun x δ => if x = lit then g δ else r x δ
def sMatch (ga : Sl → EV) (m : Str → Sl → SV) : Sl → SV := fun δ => (ga δ).bind fun v δ1 => match v.1 with
  | .str x => m x δ1
  | _ => .stk
def tMd (C : Ct) (W : WX) (G : Gh) (m : Str → Sl → SV) : TM := fun x D σ H => ∃ δ, ERel C G δ σ H ∧ PostS C W G δ σ H D (m x δ)
section
variable {C : Ct} {W : WX} {G : Gh} {X : Cx} {cs rest : List MatchCase} {body : List Stmt} {g : Sl → SV} {m : Str → Sl → SV} {a : Expr} {ga : Sl → EV} {pos : Pos}
theorem PM.imp {t t' : TM} (h : PM X cs t) (hi : ∀ x D σ H, t' x D σ H → t x D σ H) : PM X cs t' := ⟨fun pins s σ H D x tk first I q => h.run pins s σ H D x tk first I (hi x D σ H q)⟩
theorem pmd_any {p : Pos} (hb : PSs X body (tS C W G g)) : PM X [⟨.MatchAs none none p, none, body⟩] (tMd C W G (mAny g)) := PM.imp (pm_any hb) fun x D σ H h => h
theorem pmd_case {lit lit' : Str} {j : Nat} {p1 p2 : Pos} (e : lit = lit') (hb : PSs X body (tS C W G g)) (hr : PM X rest (tMd C W G m)) : PM X (⟨.MatchValue (.Constant (.str lit) j p1) p2, none, body⟩ :: rest) (tMd C W G (mCase lit' g m)) := by
  subst e
  refine PM.imp (pm_case hb hr) fun x D σ H ⟨δ, E, p⟩ => ?_
  unfold mCase at p
  split at p
  · rename_i q
    rw [if_pos q]
    exact ⟨δ, E, p⟩
  · rename_i q
    rw [if_neg q]
    exact ⟨δ, E, p⟩
theorem psd_match (ha : PE X a (tD C W G ga)) (hm : PM X cs (tMd C W G m)) : PS X (.Match a cs pos) (tS C W G (sMatch ga m)) := PS.imp (ps_matchS ha hm) fun D σ H ⟨δ, E, p⟩ =>
  ⟨δ, E, (PostS.bindE p).imp fun y δ1 H1 E1 X1 p1 v rv _ => by
    obtain ⟨d, fr⟩ := y
    cases d <;> first | exact (show False from p1).elim | skip
    cases rv
    exact ⟨_, rfl, δ1, E1, p1⟩⟩

/-- a tuple of texts stands in the written part -/
def StrTup (K : PySem.W.Frag) (a : Addr) (xs : List Str) : Prop := ∃ (o : Obj) (its : Array Value) (n : Nat), K.lookup a = some o ∧ o.cls = .type "tuple" ∧ o.data = .seq its n ∧ its.size ≤ sizeLine ∧ Vals (xs.map V.str) its.toList
theorem pd_globT {x : Str} {u : Addr} {xs : List Str} (hg : Gl X x) (hm : X.mg x = some (.ref u)) (ht : StrTup C.K u xs) (hd : (x == ("__debug__" : Str)) = false := by decide) : PE X (.Name x pos) (tD C W G (gC (.tuple (xs.map PyData.str)))) :=
  pd_C (pe_glob (v := .ref u) hg hm rfl hd) fun W H => .tup (.inr ht) (rep_strs (K := C.K) xs)
theorem pd_globI {x : Str} {i : Int} {t : Tok} (hg : Gl X x) (hm : X.mg x = some (.int i t)) (hd : (x == ("__debug__" : Str)) = false := by decide) : PE X (.Name x pos) (tD C W G (gC (.int i))) :=
  pd_C (pe_glob (v := .int i) hg hm ⟨t, rfl⟩ hd) fun W H => .int i
/-- a built-in class as a value -/
theorem pd_tyb {x : Str} {n : String} {k : Nat} (hg : Gl X x) (hm : X.mg x = none) (hv : bootBuiltins x = some (.type n)) (hk : tyNames[k]? = some n) (hn : x ≠ "__name__" := by decide) (hd : (x == ("__debug__" : Str)) = false := by decide) :
    PE X (.Name x pos) (tD C W G (gC (.dict [(.bool false, .int (-(k : Int) - 1))]))) := pd_C (pe_bltn (v := .ty n) hg hm hv rfl hn hd) fun W H => .tyb hk

def dBits : D → Option (D × Bool)
  | .int i => some (.int (Builtin.Int.intBits i : Nat), false)
  | _ => none
theorem pd_bits {apos : Pos} (ha : PE X a (tD C W G ga)) (hbase : attributeBase a "bit_length" X.env (eval a X.env) = eval a X.env := by rfl) (hline : (apos.endLine == pos.line) = true := by rfl) : PE X (.Call (.Attribute a "bit_length" apos) [] [] pos) (tD C W G (gUn dBits ga)) :=
  PE.imp (pe_bits ha hbase hline) fun σ H Q ⟨δ, E, p⟩ => ⟨δ, E, (Post.bind p).imp fun x δ1 H1 E1 X1 p1 v rv _ => by
    obtain ⟨q, e, p2⟩ := fin_ok (p1.at X1)
    obtain ⟨d, fr⟩ := x
    cases d <;> first | cases e | skip
    cases rv
    exact ⟨_, rfl, p2 H1 E1 Ext.refl _ (.int _) fun z => nomatch z⟩⟩

def gStk : Sl → EV := fun _ => .stk
def tStk : Sl → R Sl Bool := fun _ => .stk
def sStk : Sl → SV := fun _ => .stk
theorem pd_stk : PE X a (tD C W G gStk) := ⟨fun pins s σ H Q I ⟨δ, E, p⟩ => p.elim⟩
theorem ptd_stk : PT X a (tT C W G tStk) := ⟨fun pins s σ H Q I ⟨δ, E, p⟩ => p.elim⟩
theorem psd_stk {st : Stmt} : PS X st (tS C W G sStk) := ⟨fun pins s σ H D I ⟨δ, E, p⟩ => p.elim⟩
theorem pssd_stk {st : List Stmt} : PSs X st (tS C W G sStk) := ⟨fun pins s σ H D I ⟨δ, E, p⟩ => p.elim⟩
end
end DL

namespace DL
open PySem PySem.Spec L2
open PyProof.Rows hiding St

theorem ioE {P : Gh → Prop} {io : List Nat} (h : ∀ (F O : Addr → Prop), P ⟨F, O, io⟩) : ∀ G : Gh, G.io = io → P G := fun ⟨F, O, _⟩ e => by
  cases e
  exact h F O
theorem u65 {k : Nat} {A : Around} (h : Room k A) : A.units + 65 < cLine := by have := h.un; omega
theorem u64 {k : Nat} {A : Around} (h : Room k A) : A.units + 64 < cLine := by have := h.un; omega
def seqOf : D → Option (List D)
  | .list xs => some xs
  | .tuple xs => some xs
  | .dict [(.bool true, .list xs)] => some xs
  | _ => none
def giSeq (ga : Sl → EV) : Sl → R Sl (List D) := fun δ => (ga δ).bind fun x δ1 => match seqOf x.1 with
  | some ds => .ok ds δ1
  | none => .stk
section
variable {C : Ct} {W : WX} {G : Gh} {X : Cx} {tg a : Expr} {ga : Sl → EV}
theorem pid_seq (ha : PE X a (tD C W G ga)) (hK : X.K = C.K := by rfl) : PI X tg a (tI C W G (giSeq ga)) := ⟨fun pins s σ H R I ⟨δ, E, p⟩ => by
  unfold giSeq at p
  have hl : tI C W G (giList ga) σ H R ∨ tI C W G (giTup ga) σ H R := by
    cases q : ga δ with
    | exc c xs d =>
      refine .inl ⟨δ, E, ?_⟩
      unfold giList
      rw [q] at p ⊢
      exact p
    | stk =>
      rw [q] at p
      exact p.elim
    | ok x δ1 =>
      rw [q] at p
      obtain ⟨d, fr⟩ := x
      have p : Post C W G δ σ H (kI C G σ R) (match seqOf d with
        | some ds => .ok ds δ1
        | none => .stk) := p
      cases hs : seqOf d with
      | none => rw [hs] at p; exact p.elim
      | some ds =>
        rw [hs] at p
        unfold seqOf at hs
        split at hs
        · cases hs
          refine .inl ⟨δ, E, ?_⟩
          unfold giList
          rw [q]
          exact p
        · cases hs
          refine .inr ⟨δ, E, ?_⟩
          unfold giTup
          rw [q]
          exact p
        · cases hs
          refine .inl ⟨δ, E, ?_⟩
          unfold giList
          rw [q]
          exact p
        · cases hs
  rcases hl with h | h
  · exact (pid_list (tg := tg) ha hK).run pins s σ H R I h
  · exact (pid_tup (tg := tg) ha hK).run pins s σ H R I h⟩
end

def scrD (ns : List Int) : D := .dict [(.bool true, .list (ns.map PyData.int))]
theorem rep_ints {C : Ct} {W : Addr → Prop} {H : Hp} : ∀ ns : List Int, RepL C W H (ns.map V.int) (ns.map PyData.int)
  | [] => .nil
  | n :: ns => .cons (.int n) (rep_ints ns)
theorem sp_end {C : Ct} {f : List D → R (List D) (D × Bool)} {H : Hp} {a : Addr} {ns : List Int} (hf : ∃ fr outs, f [scrD ns] = .ok (.bool true, fr) outs) (hO : Only H) (hS : SqL C.K H a (ns.map V.int)) :
    spD C [] 1 f [.ref a] H (fun v _ => v = .bl true) fun _ _ _ => False := by
  obtain ⟨fr, outs, e⟩ := hf
  have nl : ∀ (b : Addr) (ys : List V), H b ≠ some (.lst ys) := fun b ys z => by
    rcases hO b with q | ⟨o, xs, q⟩
    · rw [q] at z; cases z
    · rw [q] at z; cases z
  have hs : ScrAt C.K H a (ns.map V.int) := by
    rcases hS with (h | h) | h
    · exact absurd h (nl a _)
    · exact .inl h
    · exact .inr h
  refine ⟨[scrD ns], fun _ => False, rfl, ⟨rfl, fun i v d _ h1 h2 => ?_, fun i v d h => absurd h (by simp), fun i j b h => absurd h (by simp), fun _ z => z.elim, fun b ys z => absurd z (nl b ys)⟩, ?_⟩
  · cases i with
    | zero =>
      have e1 : V.ref a = v := by simpa using h1
      have e2 : scrD ns = d := by simpa using h2
      subst e1
      subst e2
      exact .scr hs (rep_ints ns)
    | succ i => simp at h1
  · rw [e]
    intro v H' _ rv _
    cases rv
    rfl
theorem cx_end {P : Program} {w : World} {H : Hp} {s : Shared} {e : Value} {s' : Shared} : L2.CX P w [] H s (fun _ _ _ => False) e s' → False := fun ⟨_, _, _, _, _, _, _, _, _, _, _, _, h⟩ => h
/-- the law's def, called behind the top -/
theorem law_callG {P : Program} {w : World} {K : PySem.W.Frag} {mg mb : Str → Option Value} {cx : CXT} {k : Nat} {fa a : Addr} {fd : FuncData} {x : Str} {sp : Sp} {t : Shared} {vs : List Value} {ns : List Int} (inK : K.In t.heap) (hns : t.heap.Ns mainGlobals mg) (hbn : t.heap.Ns builtinsNs mb)
    (hbb : ∀ x : Str, x ≠ "__name__" → mb x = bootBuiltins x) (nolim : t.heap.NoLimit) (gens : t.gens = #[]) (scr : t.heap.get? a = some { cls := .type "list", data := .seq vs.toArray }) (whole : IntsAre vs ns) (short : ns.length ≤ sizeLine) (hr : Room k callerA)
    (F : ∀ base : Heap, K.In base → base.Ns mainGlobals mg → FnG P w K mg base cx k fa fd [x] sp) (bind : ∀ (s : Shared) (u : Value), BindsTo s fd ⟨[u], []⟩ [(x, u)]) (wish : ∀ H : Hp, Only H → SqL K H a (ns.map V.int) → sp [.ref a] H (fun v _ => v = .bl true) fun _ _ _ => False)
    (noExc : ∀ H e s', cx [] H t (fun _ _ _ => False) e s' → False) : codeAny (model P w) callerA (.call (.ref fa) ⟨[.ref a], []⟩) (fun r s' => r = .ok (.ret (.bool true)) ∧ OldK t.heap s'.heap ∧ s'.os = t.os ∧ AllBare s'.gens) t := by
  have items := vals_ints whole
  have cnt := whole.length
  have main : ∀ H : Hp, Only H → SqL K H a (ns.map V.int) → HOk P w H t.heap → (∀ b, H b ≠ none → b = a) → (H a ≠ none → K.lookup a = none) →
      codeAny (model P w) callerA (.call (.ref fa) ⟨[.ref a], []⟩) (fun r s' => r = .ok (.ret (.bool true)) ∧ OldK t.heap s'.heap ∧ s'.os = t.os ∧ AllBare s'.gens) t := fun H only sq ok sole fresh => by
    have hid : ∀ {b : Addr} {o : Obj}, t.heap.get? b = some o → H b = none → (hidT t.heap H).get? b = some o := fun e z => hidT_get e z
    have track : ∀ {b : Addr}, H b ≠ none → b = a := fun {b} z => sole b z
    have dictFree : ∀ {b : Addr} {o : Obj} {es : Array DictEntry} {ep : Nat}, t.heap.get? b = some o → o.data = .dict es ep → H b = none := fun {b o es ep} e d => Decidable.byContradiction fun z => by
      have hb := track z
      subst hb
      rw [scr] at e
      cases e
      exact absurd d (by intro q; cases q)
    have names : ∀ {b : Addr} {m : Str → Option Value}, t.heap.Ns b m → (hidT t.heap H).Ns b m := fun ⟨o, es, ep, e, d, r⟩ => ⟨o, es, ep, hid e (dictFree e d), d, r⟩
    have baseK : K.In (hidT t.heap H) := fun b o e => hid (inK b o e) (Decidable.byContradiction fun z => by
      have hb := track z
      subst hb
      rw [fresh z] at e
      cases e)
    obtain ⟨mc, n1, n2⟩ := nolim
    have md : Mod K mg (hidT t.heap H) := ⟨baseK, names hns, ⟨mb, names hbn, hbb⟩, mc, names n1, n2⟩
    have env : Env0 P w K mg (hidT t.heap H) callerA [] t H := ⟨rfl, md, fun b o e => of_hidT e, Nat.le_of_eq (hidT_size _ _), trivial, fun b z => (List.not_mem_nil z).elim, ok, .of_eq gens⟩
    refine codeAny_mono ((F _ baseK (names hns)).go callerA [] t H ⟨[.ref a], []⟩ [.ref a] [.ref a] _ _ rfl hr env (bind t (.ref a)) (.cons rfl .nil) (wish H only sq)) fun r s' h => ?_
    match r, h with
    | .error e, h => exact (noExc H e s' h).elim
    | .ok (.ret u), h =>
      obtain ⟨v, H', os, bare, un, ok', rv, (hv : v = V.bl true)⟩ := h
      subst hv
      cases (show u = Value.bool true from rv)
      refine ⟨rfl, OldK.of_keep fun b o e => ?_, os, bare⟩
      rcases only b with z | ⟨ob, xs, z⟩
      · exact un.keep b o e z (fun q => List.not_mem_nil q) (fun q => List.not_mem_nil q)
      · have e1 := (ok b _ z).1
        rw [e] at e1
        cases e1
        exact (ok' b _ (un.frzs b _ _ z)).1
  by_cases hk : K.lookup a = none
  · let H0 : Hp := fun b => if b = a then some (.frz { cls := .type "list", data := .seq vs.toArray } (.lst (ns.map V.int))) else none
    have at_a : H0 a = some (.frz { cls := .type "list", data := .seq vs.toArray } (.lst (ns.map V.int))) := if_pos rfl
    have off : ∀ b, b ≠ a → H0 b = none := fun b z => if_neg z
    refine main H0 (fun b => ?_) (.inl (.inr ⟨_, at_a⟩)) (fun b u z => ?_) (fun b z => Decidable.byContradiction fun n => z (off b n)) fun _ => hk
    · by_cases hb : b = a
      · subst hb; exact .inr ⟨_, _, at_a⟩
      · exact .inl (off b hb)
    · by_cases hb : b = a
      · subst hb
        rw [at_a] at z
        cases z
        exact ⟨scr, by rw [List.length_map]; exact short, vs, _, items, scr⟩
      · rw [off b hb] at z
        cases z
  · obtain ⟨o, ho⟩ : ∃ o, K.lookup a = some o := by
      cases h : K.lookup a with
      | none => exact absurd h hk
      | some o => exact ⟨o, rfl⟩
    have e := inK a o ho
    rw [scr] at e
    cases e
    exact main (fun _ => none) (fun _ => .inl rfl) (.inr ⟨_, _, _, ho, rfl, rfl, rfl, by rw [List.size_toArray, cnt]; exact short, by simpa using items⟩) (fun b u z => nomatch z) (fun b z => absurd rfl z) fun z => absurd rfl z
theorem walk_end {l : PySem.W.OpenLaw} {k : Nat} {q : Program} {loose : List Str} {XP : (Str → Option Value) → Heap → Prop} {YP : World → Heap → Prop} {d : DefRec} {K : Params → PySem.W.Frag} {x : Str} {f : List D → R (List D) (D × Bool)}
    (hn : l.most = some 63) (hdf : d.params.defaults = []) (hr : Room k callerA) (hY : ∀ (w : World) (h : Heap), YP w h → (K w.params).In h)
    (hf : ∀ ns : List Int, ns.length ≤ 63 → (∀ z ∈ ns, Builtin.Int.intBits z ≤ 1048576) → ∃ fr outs, f [scrD ns] = .ok (.bool true, fr) outs)
    (F : ∀ (w : World) (mg : Str → Option Value) (fa : Addr) (h : Heap), (K w.params).In h → h.Ns mainGlobals mg → mg d.name = some (.ref fa) →
      ∃ (C : Ct) (fd : FuncData), C.K = K w.params ∧ (∀ (s : Shared) (u : Value), BindsTo s fd ⟨[u], []⟩ [(x, u)]) ∧ ∀ base : Heap, (K w.params).In base → base.Ns mainGlobals mg → FnG l.prog w (K w.params) mg base (L2.CX l.prog w) k fa fd [x] (spD C [] 1 f)) :
    PySem.W.WalkO q loose XP YP l.row.toRowW d [] (fun f vs => PySem.call f vs) :=
  Att.attach_callB hn hdf fun w s₀ t mg mb fa o pm cd doc a vs ns G Y ho hd hcd hmg hobj hints hlen hbits hg => by
    obtain ⟨C, fd, e, bind, ok⟩ := F w mg fa _ (hY w _ Y) G.T.g hmg
    exact law_callG (sp := spD C [] 1 f) (hY w _ Y) G.T.g G.T.b G.T.builtins G.T.nolimit hg hobj hints (Nat.le_trans hlen (by rw [sizeLine_eq]; decide)) hr ok bind (fun H hO hS => sp_end (hf ns hlen hbits) hO (by rw [e]; exact hS)) fun H e' s' => cx_end
end DL

namespace DL
open PySem PySem.Spec L2
open PyProof.Rows hiding St
def dAddI : DOp
  | .int i, .int j => some (.int (i + j), false)
  | _, _ => none
theorem od_addI {C : Ct} : OpD C (rI0 fun i j => .int (i + j)) dAddI := ok_I0 (h := fun i j => .int (i + j)) (fun v w p e => by unfold dAddI at e; split at e <;> first | exact ⟨_, _, rfl, rfl, (Option.some.inj e).symm⟩ | cases e) fun i j W H => .int _
section
variable {C : Ct} {W : WX} {G : Gh} {X : Cx}
theorem psd_raiseX {x m : Str} {j c : Nat} {p p2 pos pos2 : Pos} (hc : X.calm = true) (tk : Takes X W) (q : PySem.W.excIn X.K (C.cl c) [.type "ValueError", .type "Exception", .type "BaseException", .type "object"] "ValueError.__new__" = true) (gC : X.mg x = some (.ref (C.cl c))) (kC : PySem.W.keepIn X.K (.ref (C.cl c)) = true)
    (h1 : PySem.W.subIn X.K (.ref (C.cl c)) (.type "BaseException") = some true) (h2 : PySem.W.typeIn X.K (.ref (C.cl c)) = some (.type "type")) (hg : Gl X x) (hdb : (x == ("__debug__" : Str)) = false := by decide) :
    PS X (.Raise (some (.Call (.Name x p) [.Constant (.str m) j p2] [] pos)) none pos2) (tS C W G (sRaise c)) :=
  psd_raise (ps_raise hc tk (pmk_own PySem.F.excBase_ValueError q gC kC (raises_own h1 h2) hg hdb))
end
end DL

namespace DL
open PySem PySem.Spec L2
open PyProof.Rows hiding St

theorem u66 {k : Nat} {A : Around} (h : Room k A) : A.units + 66 < cLine := by have := h.un; omega
def dRepr : List D → Option (D × Bool)
  | [d] => if d.showable && !d.hasDict && d.canLay0 && decide (d.depth ≤ 64) && decide (d.shown.length ≤ LINE) then some (.str d.shown, false) else none
  | _ => none
def rRepr (K : PySem.W.Frag) : List V → Hp → VK → Prop := fun xs H Q => ∃ x d, xs = [x] ∧ Dp K H x d ∧ d.showable = true ∧ d.hasDict = false ∧ d.depth ≤ 64 ∧ d.shown.length ≤ sizeLine ∧ Q (.str d.shown) H
theorem call_reprD {X : Cx} (hG : X.A.guards = some []) (hu : X.A.units + 66 < cLine) : CallR X (.builtin "repr") (rRepr X.K) := by
  intro pins s σ H xs us Q I r h
  obtain ⟨x, d, rfl, hd, h1, h2, h3, h4, q⟩ := h
  cases r with
  | cons ru rt =>
    rename_i u ut
    cases rt
    obtain ⟨as, rd⟩ := Dp.reads I d x u hd ru
    have far : ∀ a, u = .ref a → wpAny (model X.prog X.w) X.A (call (.builtin "repr") [u]) (EP X pins σ Q) X.xe s := fun a e => by
      subst e
      refine PySem.repr_of_reads' rd h1 (fun z => by rw [h2] at z; cases z) hG (by omega) (fun _ _ z => z) (fun h' t tk hk => ⟨.str d.shown, H, I.kept hk, ⟨t, rfl⟩, q⟩) h4
    cases d with
    | none => cases rd; exact PySem.P.repr_of_none ⟨.str _, H, I.tok _, ⟨_, rfl⟩, by rw [PyData.shown_none] at q; exact q⟩
    | bool b => cases rd; exact PySem.P.repr_of_bool ⟨.str _, H, I.tok _, ⟨_, rfl⟩, by rw [PyData.shown_bool] at q; exact q⟩
    | int i =>
      cases rd
      exact PySem.P.repr_of_int (by simpa [PyData.showable] using h1) ⟨.str _, H, I.tok _, ⟨_, rfl⟩, by rw [PyData.shown_int] at q; exact q⟩
    | str y =>
      cases rd
      exact PySem.P.repr_of_str ⟨.str _, H, I.tok _, ⟨_, rfl⟩, by rw [PyData.shown_str] at q; exact q⟩ (by rw [PyData.shown_str] at h4; exact h4)
    | list ys => cases rd; exact far _ rfl
    | tuple ys => cases rd; exact far _ rfl
    | dict ys => cases h2
theorem cd_repr {C : Ct} : CallD C (rRepr C.K) dRepr := fun G δ σ H xs ds p Q E r e q => by
  unfold dRepr at e
  split at e
  · rename_i d
    obtain ⟨v, rfl, rv⟩ := r.one_inv
    by_cases c : (d.showable && !d.hasDict && d.canLay0 && decide (d.depth ≤ 64) && decide (d.shown.length ≤ LINE)) = true
    · rw [if_pos c] at e
      obtain rfl := Option.some.inj e
      simp only [Bool.and_eq_true, decide_eq_true_eq, Bool.not_eq_true'] at c
      obtain ⟨⟨⟨⟨c1, c2⟩, c3⟩, c4⟩, c5⟩ := c
      exact ⟨v, d, rfl, rv.dps (by unfold SeqAt.shaped; rw [c3, decide_eq_true c4]; rfl), c1, c2, c4, by rw [← line_eq]; exact c5, atom E q (.str _)⟩
    · rw [if_neg c] at e
      cases e
  · cases e

def dEqA : DOp
  | .str x, .str y => some (.bool (decide (x = y)), false)
  | a, b => dEq a b
def dNeA : DOp
  | .str x, .str y => some (.bool (!decide (x = y)), false)
  | a, b => dNe a b
def rEqA (K : PySem.W.Frag) : R2 := fun x y H Q => (∃ i j, x = .str i ∧ y = .str j ∧ Q (.bl (decide (i = j))) H) ∨ rEqD K x y H Q
def rNeA (K : PySem.W.Frag) : R2 := fun x y H Q => (∃ i j, x = .str i ∧ y = .str j ∧ Q (.bl (!decide (i = j))) H) ∨ rNeD K x y H Q
theorem dec_strV {i j : Str} : decide (V.str i = V.str j) = decide (i = j) := by simp
theorem op_eqA {X : Cx} (hu : X.A.units + 64 < cLine) : OpR X (compareOp .Eq) (rEqA X.K) := OpR.or (fun pins s σ H x y v u Q I rx ry ⟨i, j, e1, e2, q⟩ => by
  subst e1; subst e2
  exact op_eq pins s σ H _ _ v u Q I rx ry ⟨rfl, by rw [dec_strV]; exact q⟩) (op_eqD hu)
theorem op_neA {X : Cx} (hu : X.A.units + 64 < cLine) : OpR X (compareOp .NotEq) (rNeA X.K) := OpR.or (fun pins s σ H x y v u Q I rx ry ⟨i, j, e1, e2, q⟩ => by
  subst e1; subst e2
  exact op_ne pins s σ H _ _ v u Q I rx ry ⟨rfl, by rw [dec_strV]; exact q⟩) (op_neD hu)
theorem od_eqA {C : Ct} : OpD C (rEqA C.K) dEqA := fun G δ σ H x y v w p Q E rx ry e q => by
  unfold dEqA at e
  split at e
  · cases e
    cases rx; cases ry
    exact .inl ⟨_, _, rfl, rfl, atom E q (.bl _)⟩
  · exact .inr (od_eq G δ σ H x y v w p Q E rx ry e q)
theorem od_neA {C : Ct} : OpD C (rNeA C.K) dNeA := fun G δ σ H x y v w p Q E rx ry e q => by
  unfold dNeA at e
  split at e
  · cases e
    cases rx; cases ry
    exact .inl ⟨_, _, rfl, rfl, atom E q (.bl _)⟩
  · exact .inr (od_ne G δ σ H x y v w p Q E rx ry e q)

def findD (d : D) : List D → Nat → Option Nat
  | [], _ => none
  | x :: r, k => if PyData.eqv x d then some k else findD d r (k + 1)
theorem findD_ok {d : D} : ∀ {ds : List D} {k j : Nat}, findD d ds k = some j → ∃ m z, j = k + m ∧ ds[m]? = some z ∧ PyData.eqv z d = true ∧ ∀ (i : Nat) (z' : D), i < m → ds[i]? = some z' → PyData.eqv z' d = false
  | [], _, _, h => by cases h
  | x :: r, k, j, h => by
    unfold findD at h
    by_cases c : PyData.eqv x d = true
    · rw [if_pos c] at h
      cases h
      exact ⟨0, x, rfl, rfl, c, fun i z' hi => absurd hi (Nat.not_lt_zero _)⟩
    · rw [if_neg c] at h
      obtain ⟨m, z, e, h1, h2, h3⟩ := findD_ok h
      refine ⟨m + 1, z, by omega, h1, h2, fun i z' hi hz => ?_⟩
      cases i with
      | zero =>
        have e : x = z' := by simpa using hz
        rw [← e]
        simpa using c
      | succ i => exact h3 i z' (by omega) (by simpa using hz)
def gIndexV (i : Nat) (gb : Sl → EV) : Sl → EV := fun δ => match slotD i δ with
  | some (.list _) => (gb δ).bind fun y δ1 => match slotD i δ1 with
    | some (.list ds) => if SeqAt.shaped (.list ds) && SeqAt.shaped y.1 then match findD y.1 ds 0 with
        | some j => .ok (.int (j : Nat), false) δ1
        | none => .stk
      else .stk
    | _ => .stk
  | _ => .stk
theorem pd_indexV {C : Ct} {W : WX} {G : Gh} {X : Cx} {i : Nat} {x : Str} {b : Expr} {gb : Sl → EV} {apos pos' pos : Pos} (hb : PE X b (tD C W G gb)) (hp : PE X (.Call (.Attribute (.Name x pos') "index" apos) [b] [] pos) (tBM C.K "list" (rIndexD C.K) (tVar i) (tCons (tD C W G gb) tNil))) :
    PE X (.Call (.Attribute (.Name x pos') "index" apos) [b] [] pos) (tD C W G (gIndexV i gb)) := PE.imp hp fun σ H Q ⟨δ, E, p⟩ => by
  unfold gIndexV at p
  split at p
  · rename_i ds0 h0
    obtain ⟨v, hv, rb0⟩ := E.slot h0
    obtain ⟨a, xs0, rfl, g0, _⟩ := rb0.lst
    refine ⟨_, hv, .inl ⟨rfl, _, SqL.of g0⟩, δ, E, (Post.bind p).imp fun y δ1 H1 E1 X1 p1 w rw _ => ?_⟩
    split at p1
    · rename_i ds h1
      have rb := slot_later E1 hv h1
      split at p1
      · rename_i c
        rw [Bool.and_eq_true] at c
        split at p1
        · rename_i j hj
          obtain ⟨m, z, e, q1, q2, q3⟩ := findD_ok hj
          rw [Nat.zero_add] at e
          subst e
          exact ⟨a, w, y.1, ds, j, z, rfl, rfl, rb.dps c.1, rw.dps c.2, c.1, c.2, q1, q2, q3, now E1 p1 _ (.int _) fun z => nomatch z⟩
        · exact (show False from p1).elim
      · exact (show False from p1).elim
    · exact (show False from p1).elim
  · exact (show False from p).elim
def mStk : List D → R (List D) (D × Bool) := fun _ => .stk
theorem fn_stk {C : Ct} {P : Program} {w : World} {K : PySem.W.Frag} {mg : Str → Option Value} {base : Heap} {cx : CXT} {k n : Nat} {fa : Addr} {fd : FuncData} {ps : List Str} {io : List Nat} (hn : n = ps.length) : FnG P w K mg base cx k fa fd ps (spD C io n mStk) :=
  ⟨fun vs H Q E ⟨ds, F, h, _⟩ => h.trans hn, fun B ou t H ar us vs Q E hG hr e b r ⟨ds, F, _, _, p⟩ => p.elim⟩
end DL

namespace DL
open PySem PySem.Spec L2
open PyProof.Rows hiding St

section
variable {X : Cx} {pins : List (Addr × Obj)} {σ : St} {H : Hp} {s : Shared}
/-- an object that was made behind the entry is known from now on -/
theorem track {a : Addr} {o : Obj} {vs : Array Value} (I : Inv X pins σ H s) (ha : s.heap.get? a = some o) (hd : o.data = .fields vs) (na : H a = none) (nL : a ≠ X.env.locals) (new : X.s_0.heap.get? a = none) (np : ∀ p ∈ X.pn ++ pins, p.1 ≠ a) :
    Inv X pins σ (upd H a (XO a o.cls o.dict)) s := by
  have ne : ∀ b, H b ≠ none → b ≠ a := fun b z e => z (by rw [e]; exact na)
  have up : ∀ b u, H b = some u → upd H a (XO a o.cls o.dict) b = some u := fun b u e => by
    rw [upd_ne (ne b (by rw [e]; exact fun z => nomatch z))]
    exact e
  have gone : ∀ b, b ≠ a → H b = none → upd H a (XO a o.cls o.dict) b = none := fun b z e => by
    rw [upd_ne z]
    exact e
  have old : ∀ b u, X.s_0.heap.get? b = some u → b ≠ a := fun b u e z => by
    rw [z, new] at e
    cases e
  refine { ok := I.ok, os := I.os, bare := I.bare, base := ⟨I.base.keep, I.base.slot, fun b u e n x => gone b (old b u e) (I.base.free b u e n x), I.base.there, fun b xs e => up b _ (I.base.tups b xs e), fun b u w e => up b _ (I.base.frzs b u w e), fun b ps e => ?_⟩, loc := I.loc, cell := I.cell, free := gone _ (Ne.symm nL) I.free, freeC := fun x c e => gone c (fun z => ?_) (I.freeC x c e), pin := fun p hp => ?_, hok := fun b u e => ?_, len := I.len }
  · obtain ⟨more, h⟩ := I.base.tbls b ps e
    exact ⟨more, up b _ h⟩
  · obtain ⟨v, ob, e1, e2⟩ := I.cell x c e
    rw [z, ha] at e1
    cases e1
    rw [hd] at e2
    cases e2
  · obtain ⟨e1, e2, e3⟩ := I.pin p hp
    exact ⟨e1, gone _ (np p hp) e2, e3⟩
  · by_cases hb : b = a
    · subst hb
      rw [upd_same] at e
      cases e
      exact ⟨⟨o, vs, ha, rfl, rfl, hd⟩, ⟨o, ha⟩, fun h1 h2 ⟨o', vs', q1, q2⟩ k => ⟨o', vs', k o' q1, q2⟩⟩
    · rw [upd_ne hb] at e
      exact (I.hok b u e).stay (fun _ _ _ q => q) (fun c q => up c _ q) fun c xs q => up c _ q
/-- what «try: .. except x as n: y = n» wishes of an error -/
def wKeep (K : PySem.W.Frag) (c : Value) (i j : Nat) (Wout : WX) (D : Ends) : WX := fun cls d σ H => ∃ b, PySem.W.exmOne K cls c = some b ∧
  (b = true → ∀ a, H a = none → D.nx (((σ.set i (some (.ref a))).set j (some (.ref a))).set i none) (upd H a (XO a cls d))) ∧ (b = false → Wout cls d σ H)
end
section
variable {X : Cx} {x n y : Str} {c : Value} {i j : Nat} {body : List Stmt} {np py pn ap pos pos' : Pos} {tb : WX → TS} {Wout : WX}
theorem ps_try_keep (hex : X.ex = []) (hs : X.stack = X.env :: X.outer) (hf : X.env.frame = some X.env.locals) (hN : X.N.Nodup) (hi : X.N[i]? = some n) (hj : X.N[j]? = some y) (hln : X.env.kindOf n = some .local) (hly : X.env.scope.names.lookup y = some .local) (hvn : Vis X.env.scope n)
    (dn : (n == ("__debug__" : Str)) = false) (dc : (n == ("__classdict__" : Str)) = false) (hc : Names X x c) (tk : Takes X Wout)
    (hb : ∀ (W : WX) (pn : List (Addr × Obj)) (xe : Value → Shared → Prop), Takes (X.tr pn xe) W → PassesOwn (model X.prog X.w) X.A X.env xe → PSs (X.tr pn xe) body (tb W)) :
    PS X (.Try body [.ExceptHandler (some (.Name x np)) (some n) [.Assign [.Name y py] (.Name n pn) ap] pos'] [] [] pos) (fun D σ H => tb (wKeep X.K c i j Wout D) D σ H) := by
  refine ⟨fun pins s σ H D I h => wpAny_Try_except ?_⟩
  have ok := I.ok
  have frames : X.A.frames = some (X.env :: X.outer) := by rw [ok.frames, hs]
  -- the handler, as the body's way out
  let out : Value → Shared → Prop := fun e t => wpAny (model X.prog X.w) X.A (noteFrame e X.env) (fun _ t2 => wpAny (model X.prog X.w) X.A (setFlight e none) (fun _ t3 =>
    wpAny (model X.prog X.w) X.A (handleBy e X.env [.ExceptHandler (some (.Name x np)) (some n) [.Assign [.Name y py] (.Name n pn) ap] pos']) (SP X pins D) X.xe t3) X.xe t2) X.xe t
  have tko : Takes (X.tr (X.pn ++ pins) out) (wKeep X.K c i j Wout D) := fun u t air => by
    obtain ⟨a, B, sI, pins', τ, H', cls, d, rfl, J0, keepB, upS, sky, na, os, ag, b, hb1, yes, no⟩ := air
    have J : Inv X pins τ H' sI := J0.ofTry ok
    have sky' : Sky B (X.env :: X.outer) a (Zc cls d) X.env.locals t.heap := hs ▸ sky
    refine Sky.land Zc.steady frames hf sky' fun g3 fl up3 => ?_
    have J3 : Inv X pins τ H' { t with heap := g3 } := J.landed keepB fl.1 (upS.trans up3) os ag
    obtain ⟨o3, v3, e3, z3, d3⟩ := fl.there
    -- the error's object is no frame's
    have noFrame : a ∉ frs (X.env :: X.outer) := fun hm => by
      obtain ⟨_, o', e', bad⟩ := fl.2.2.1.mem hm
      rw [e3] at e'
      cases e'
      exact bad _ d3
    have nL : a ≠ X.env.locals := fun z => noFrame (List.mem_filterMap.mpr ⟨X.env, List.mem_cons_self, by rw [hf, z]⟩)
    have nF : a ∉ X.fs := fun hm => by
      obtain ⟨ev, he, q⟩ := List.mem_filterMap.mp hm
      exact noFrame (List.mem_filterMap.mpr ⟨ev, List.mem_cons_of_mem _ he, q⟩)
    have freshB : B.get? a = none := fl.2.1
    have offStack : ∀ {p : Addr} {u : Obj}, sI.heap.get? p = some u → p ∉ frs X.stack → p ≠ a := fun {p u} e nf z => by
      have q := keepB p u e nf
      rw [z, freshB] at q
      cases q
    have S3 := J3.suite e3 d3 na nL nF
    refine wpAny_handleBy_cons (codeAny_handlers_test ?_) (by intro q; cases q)
    have isA : PySem.W.Looks (model X.prog X.w) g3 (typeOf (.ref a)) cls := fun A Q E s k q => wpAny_typeOf_ref (k _ _ e3) (by rw [z3.1]; exact q)
    have one := PySem.W.exm_one (M := model X.prog X.w) J3.kIn isA hb1
    have named : ∀ {Q : Value → Shared → Prop} {E : Value → Shared → Prop}, Q c { t with heap := g3 } → wpAny (model X.prog X.w) (X.A.mark (some (.ref a))) (eval (.Name x np) X.env) Q E { t with heap := g3 } := fun {Q E} q => by
      obtain ⟨hg, hdb, hm | ⟨hm, hv, hnn⟩⟩ := hc
      · exact ld_glob (X := X.suite a ((a, o3) :: (X.pn ++ pins))) S3 hg hm q hdb
      · exact ld_blt (X := X.suite a ((a, o3) :: (X.pn ++ pins))) S3 hg hm hv q hnn hdb
    refine named (one.here ?_)
    cases b with
    | false =>
      refine wpAny_handleBy_nil (M := model X.prog X.w) (A := X.A) ?_
      obtain ⟨k1, k2, k3, oe, ws, tb, oT, ts', he, hz, hd, h1, hr⟩ := id fl
      unfold PySem.passOn
      refine wpAny_bind (wpAny_field he hd h1 ?_)
      rw [if_neg (show ¬ ((Value.ref tb == Value.none) = true) from by simp)]
      have away : wpAny (model X.prog X.w) X.A (setFlight (.ref a) X.env.frame) (fun _ t4 => wpAny (model X.prog X.w) X.A (throw (.ref a) : Sem Flow) (SP X pins D) X.xe t4) X.xe { t with heap := g3 } := by
        rw [hf]
        exact HandSPX.setFlight_upZ fl fun g4 fl4 up4 => wpAny_throw (tk _ _ ⟨a, B, sI, pins, τ, H', cls, d, rfl, J, keepB, (upS.trans up3).trans up4, .inr (.inr (by rw [hs]; exact fl4)), na, os, ag, no rfl⟩)
      first
        | exact wpAny_bind (wpAny_pure (wpAny_bind away))
        | exact wpAny_bind away
    | true =>
      refine codeAny_handlers_suite_as (HandSPX.lands_againZ fl fun g4 fl4 up4 => ?_)
      have J4 : Inv X pins τ H' { t with heap := g4 } := J.landed keepB fl4.1 ((upS.trans up3).trans up4) os ag
      obtain ⟨o4, v4, e4, z4, d4⟩ := fl4.there
      have S4 := J4.suite e4 d4 na nL nF
      refine store_ok (X := X.suite a ((a, o4) :: (X.pn ++ pins))) (v := .ref a) S4 hN hi (.inl hln) rfl (fun t5 S5 => ?_) (.inr hln)
      -- y = n
      have keep := ps_set (X := X.suite a ((a, o4) :: (X.pn ++ pins))) (i := j) (pos' := py) (pos := ap) hN hj (.inl hly) (pe_var (i := i) (pos := pn) hi hvn dn dc) rfl (.inr hly)
      have il : i < τ.length := by rw [J.len]; exact (List.getElem?_eq_some_iff.mp hi).1
      refine wpAny_mono ((pss_one keep).run [] t5 _ H' { nx := fun σ6 H6 => σ6 = (τ.set i (some (.ref a))).set j (some (.ref a)) ∧ H6 = H', rt := fun _ _ => False } S5 ⟨.ref a, List.getElem?_set_self il, rfl, rfl⟩) (fun f t6 hsp => ?_) fun _ _ z => False.elim z
      cases f with
      | next =>
        obtain ⟨σ6, H6, S6, rfl, hH⟩ := hsp
        rw [hH] at S6
        refine gone_ok (X := X.suite a ((a, o4) :: (X.pn ++ pins))) S6 hN hi hln fun t7 S7 => ?_
        have J7 : Inv X pins _ H' t7 := S7.unsuite ok
        have a7 : t7.heap.get? a = some o4 := (S7.pin (a, o4) (List.mem_append_left _ (List.mem_cons_self ..))).1
        have tr := track J7 a7 d4 na nL ?_ fun p hp => ?_
        · rw [z4.1, z4.2] at tr
          exact ⟨_, _, tr, yes rfl a na⟩
        · cases q : X.s_0.heap.get? a with
          | none => rfl
          | some u =>
            obtain ⟨o', e'⟩ := J.base.there a u q (by rw [hex]; exact fun z => List.not_mem_nil z)
            exact absurd rfl (offStack e' (by rw [hs]; exact noFrame))
        · obtain ⟨w1, w2, w3, w4, w5⟩ := J.pin p hp
          refine offStack w1 ?_
          rw [hs]
          intro hm
          obtain ⟨ev, he, q⟩ := List.mem_filterMap.mp hm
          rcases List.mem_cons.mp he with z | z
          · subst z
            rw [hf] at q
            exact w3 (Option.some.inj q).symm
          · exact w4 (List.mem_filterMap.mpr ⟨ev, z, q⟩)
      | brk => obtain ⟨_, _, _, q⟩ := hsp; exact q.elim
      | cont => obtain ⟨_, _, _, q⟩ := hsp; exact q.elim
      | ret u => obtain ⟨_, _, _, _, _, q⟩ := hsp; exact q.elim
  refine wpAny_mono ((hb (wKeep X.K c i j Wout D) (X.pn ++ pins) out tko PassesOwn.looking).run [] s σ H D (I.toTry _) h) (fun f t hsp => ?_) (fun e t he => he)
  cases f with
  | next => obtain ⟨σ', H', J', q⟩ := hsp; exact wpAny_execs_nil ⟨σ', H', J'.ofTry ok, q⟩
  | brk => obtain ⟨σ', H', J', q⟩ := hsp; exact ⟨σ', H', J'.ofTry ok, q⟩
  | cont => obtain ⟨σ', H', J', q⟩ := hsp; exact ⟨σ', H', J'.ofTry ok, q⟩
  | ret u => obtain ⟨v, σ', H', J', r, q⟩ := hsp; exact ⟨v, σ', H', J'.ofTry ok, r, q⟩
end
end DL

namespace DL
open PySem PySem.Spec L2
open PyProof.Rows hiding St

def excD (c : Nat) : List D → D
  | [] => .dict [(.none, .int (c : Int))]
  | d :: _ => .dict [(.none, .int (c : Int)), (.none, d)]
def tryEnd (io : List Nat) (i j c : Nat) (xs : List D) (δ1 : Sl) : SV := match δ1[i]? with
  | some (some (true, _)) => .stk
  | _ => if io.contains i || io.contains j || decide (δ1.length ≤ j) then .stk else .ok .nx (((δ1.set i none).set j (some (false, excD c xs))).set i none)
def sTry (io : List Nat) (i j : Nat) (js : List Nat) (g : Sl → SV) : Sl → SV := fun δ => match g δ with
  | .exc c xs δ1 => if c ∈ js then tryEnd io i j c xs δ1 else .stk
  | r => r
section
variable {C : Ct} {W : WX} {G : Gh} {δ : Sl} {σ : St} {H : Hp}
theorem own_wipe1 {i : Nat} {x : Option V} : ∀ a, Own (δ.set i none) (σ.set i x) a → Own δ σ a := fun a ⟨k, d, h1, h2⟩ => by
  by_cases e : i = k
  · subst e
    by_cases hl : i < δ.length
    · rw [List.getElem?_set_self hl] at h1; cases h1
    · rw [List.getElem?_eq_none (by simpa using hl)] at h1; cases h1
  · rw [List.getElem?_set_ne e] at h1 h2
    exact ⟨k, d, h1, h2⟩
theorem ERel.wipe1 {i : Nat} {x : Option V} (E : ERel C G δ σ H) : ERel C G (δ.set i none) (σ.set i x) H := by
  have key : ∀ {k : Nat} {z : Bool × D}, (δ.set i none)[k]? = some (some z) → i ≠ k ∧ δ[k]? = some (some z) := fun {k z} h => by
    by_cases e : i = k
    · subst e
      by_cases hl : i < δ.length
      · rw [List.getElem?_set_self hl] at h; cases h
      · rw [List.getElem?_eq_none (by simpa using hl)] at h; cases h
    · rw [List.getElem?_set_ne e] at h
      exact ⟨e, h⟩
  have w : ∀ b, WW G (δ.set i none) (σ.set i x) b → WW G δ σ b := fun b z => z.imp id (own_wipe1 b)
  refine ⟨by rw [List.length_set, List.length_set]; exact E.len, fun k d h => ?_, fun k d h => ?_, fun k l a dk dl h1 h2 h3 h4 => ?_, E.fl, E.ol, E.sz⟩
  · obtain ⟨ne, h'⟩ := key h
    obtain ⟨v, r1, r2⟩ := E.sh k d h'
    exact ⟨v, by rw [List.getElem?_set_ne ne]; exact r1, r2.weak w⟩
  · obtain ⟨ne, h'⟩ := key h
    obtain ⟨b, ys, es, r1, r2, r3, r4, r5⟩ := E.ow k d h'
    exact ⟨b, ys, es, by rw [List.getElem?_set_ne ne]; exact r1, r2, r3, r4.weak w, r5⟩
  · obtain ⟨n1, q1⟩ := key h1
    obtain ⟨n2, q2⟩ := key h2
    rw [List.getElem?_set_ne n1] at h3
    rw [List.getElem?_set_ne n2] at h4
    exact E.inj k l a dk dl q1 q2 h3 h4
theorem try_ok {i j : Nat} {js : List Nat} {g : Sl → SV} {K : PySem.W.Frag} {cc : Value} (hij : i ≠ j) (hcat : ∀ c ∈ js, PySem.W.exmOne K (.ref (C.cl c)) cc = some true) (D : Ends) (σ : St) (H : Hp) (h : tS C W G (sTry G.io i j js g) D σ H) : tS C (wKeep K cc i j W D) G g D σ H := by
  obtain ⟨δ, E, p⟩ := h
  refine ⟨δ, E, ?_⟩
  unfold sTry at p
  cases q : g δ with
  | stk => rw [q] at p; exact p
  | ok f δ1 => rw [q] at p; exact p
  | exc c xs δ1 =>
    rw [q] at p
    intro cls dct τ H1 E1 X1 I1 ev
    have hcls := ev.1
    by_cases hc : c ∈ js
    · refine ⟨true, by rw [hcls]; exact hcat c hc, fun _ a na => ?_, fun z => nomatch z⟩
      dsimp only at p
      rw [if_pos hc] at p
      unfold tryEnd at p
      have p' : PostS C W G δ σ H D (if G.io.contains i || G.io.contains j || decide (δ1.length ≤ j) then .stk else .ok .nx (((δ1.set i none).set j (some (false, excD c xs))).set i none)) := by
        split at p
        · exact (show False from p).elim
        · exact p
      split at p'
      · exact (show False from p').elim
      · rename_i hn
        rw [Bool.or_eq_true, Bool.or_eq_true, not_or, not_or] at hn
        have hj := hn.2
        simp at hj
        have hio : i ∉ G.io := by simpa using hn.1.1
        have hjo : j ∉ G.io := by simpa using hn.1.2
        -- the error stands from now on
        have Eg : ERel C G δ1 τ (upd H1 a (XO a cls dct)) := (E1.grow na fun ys e => by cases e).less
        have Xg : Ext δ1 τ H1 δ1 τ (upd H1 a (XO a cls dct)) := Ext.grow na
        have Ew := Eg.wipe1 (i := i) (x := some (.ref a))
        have rep : Rep C (WW G (δ1.set i none) (τ.set i (some (.ref a)))) (upd H1 a (XO a cls dct)) (.ref a) (excD c xs) := by
          rcases ev.2 with ⟨rfl, hd⟩ | ⟨dd, v, d, rfl, hd, hx, rv⟩
          · subst hd
            subst hcls
            exact .exc0 upd_same
          · subst hd
            subst hcls
            exact .exc1 upd_same (by rw [upd_ne (ne_of_none hx na)]; exact hx) ((Xg.rep rv).weak fun b z => z.imp id (own_wipe1 b))
        obtain ⟨Es, os⟩ := Ew.store (i := j) (fr := false) (by rw [List.length_set]; exact hj) hjo rep fun z => nomatch z
        have Ef := Es.wipe1 (i := i) (x := none)
        refine p' _ _ Ef ((X1.trans Xg).trans ⟨Kept.refl, fun _ z => z, fun b z => ?_⟩) fun k hk => ?_
        · rcases os b (own_wipe1 b z) with y | ⟨y, _⟩
          · exact .inl (own_wipe1 b y)
          · cases y
        · have h1 : i ≠ k := fun e => hio (e ▸ hk)
          have h2 : j ≠ k := fun e => hjo (e ▸ hk)
          rw [List.getElem?_set_ne h1, List.getElem?_set_ne h2, List.getElem?_set_ne h1]
          exact I1 k hk
    · dsimp only at p
      rw [if_neg hc] at p
      exact p.elim
theorem psd_try {X : Cx} {x n y : Str} {c : Value} {i j : Nat} {body : List Stmt} {np py pn ap pos pos' : Pos} {js : List Nat} {g : Sl → SV} (hij : i ≠ j) (hcat : ∀ k ∈ js, PySem.W.exmOne X.K (.ref (C.cl k)) c = some true) (hex : X.ex = []) (hs : X.stack = X.env :: X.outer) (hf : X.env.frame = some X.env.locals) (hN : X.N.Nodup) (hi : X.N[i]? = some n) (hj : X.N[j]? = some y)
    (hln : X.env.kindOf n = some .local) (hly : X.env.scope.names.lookup y = some .local) (hvn : Vis X.env.scope n) (dn : (n == ("__debug__" : Str)) = false) (dc : (n == ("__classdict__" : Str)) = false) (hc : Names X x c) (tk : Takes X W)
    (hb : ∀ (W : WX) (pn : List (Addr × Obj)) (xe : Value → Shared → Prop), Takes (X.tr pn xe) W → PassesOwn (model X.prog X.w) X.A X.env xe → PSs (X.tr pn xe) body (tS C W G g)) :
    PS X (.Try body [.ExceptHandler (some (.Name x np)) (some n) [.Assign [.Name y py] (.Name n pn) ap] pos'] [] [] pos) (tS C W G (sTry G.io i j js g)) :=
  PS.imp (ps_try_keep (tb := fun W => tS C W G g) hex hs hf hN hi hj hln hly hvn dn dc hc tk hb) fun D σ H h => try_ok hij hcat D σ H h
end
end DL

namespace DL
open PySem PySem.Spec L2
open PyProof.Rows hiding St

/-- class number k as a value of the model -/
def clv (cl : Nat → Addr) (k : Int) : Value := if 0 ≤ k then .ref (cl k.toNat) else .type (tyNames.getD (-k - 1).toNat "")
/-- is class j (own, over TreeError, number 0) under class k -/
def tabE (j : Nat) (k : Int) : Option Bool := if k = -6 then some true else if 0 ≤ k then some (k == (j : Int) || k == 0) else none
structure EF (K : PySem.W.Frag) (cl : Nat → Addr) (js : List Nat) (ks : List Int) : Prop where
  ec : ∀ j ∈ js, ExcC K (cl j)
  ki : ∀ j ∈ js, ∀ k ∈ ks, ∀ b, tabE j k = some b → PySem.W.kitOne K (.ref (cl j)) (clv cl k) = some b
def dIsiE (js : List Nat) (ks : List Int) : List D → Option (D × Bool)
  | [.dict [(.none, .int j)], .dict [(.bool false, .int k)]] => if 0 ≤ j ∧ j.toNat ∈ js ∧ k ∈ ks then (tabE j.toNat k).map fun b => (.bool b, false) else none
  | xs => dIsi xs
def rIsX (K : PySem.W.Frag) (cl : Nat → Addr) : List V → Hp → VK → Prop := fun xs H Q => ∃ (a : Addr) (j : Nat) (c : V) (cv : Value) (b : Bool), xs = [.ref a, c] ∧ H a = some (XO a (.ref (cl j)) none) ∧ ExcC K (cl j) ∧ (∀ u, RelV c u → u = cv) ∧ PySem.W.kitOne K (.ref (cl j)) cv = some b ∧ Q (.bl b) H
def rIsE2 (K : PySem.W.Frag) (cl : Nat → Addr) : List V → Hp → VK → Prop := fun xs H Q => rIsX K cl xs H Q ∨ rIsi K xs H Q
theorem call_isX {X : Cx} {cl : Nat → Addr} : CallR X (.builtin "isinstance") (rIsE2 X.K cl) := by
  intro pins s σ H xs us Q I r h
  rcases h with ⟨a, j, c, cv, b, rfl, hx, C, hcv, e, q⟩ | h
  · obtain ⟨u1, u2, rfl, r1, r2⟩ := vals2 r
    cases (show u1 = Value.ref a from r1)
    have ec := hcv _ r2
    subst ec
    obtain ⟨⟨o, vs, h1, h2, h3, h4⟩, _, _⟩ := (show ObjOk X.prog X.w H s.heap a (XO a (.ref (cl j)) none) from I.hok a _ hx)
    have J : PySem.W.InstAt s.heap a o (cl j) none := by
      obtain ⟨oc, od, oda, osl⟩ := o
      dsimp only at h2 h3 h4
      subst h2 h3 h4
      exact ⟨h1, rfl, rfl, trivial⟩
    exact PySem.W.kia_one (PySem.W.handS_kitx_exc C.hg C.hk C.hs C.hd C.ha C.hn C.ht C.hm) I.kIn J e (fun z => nomatch z) fun tk => ⟨.bl b, H, I.kept (t' := tk) fun _ _ z => z, rfl, q⟩
  · exact call_isi pins s σ H xs us Q I r h
theorem cls_rel {C : Ct} {W : Addr → Prop} {H : Hp} {v : V} {k : Int} (h : Rep C W H v (.dict [(.bool false, .int k)])) : ∀ u, RelV v u → u = clv C.cl k := fun u r => by
  generalize hd : PyData.dict [(.bool false, .int k)] = d at h
  cases h with
  | @tyb n kk hn =>
    have e : k = -((kk : Nat) : Int) - 1 := by simpa using hd
    subst e
    have c : ¬ (0 : Int) ≤ -((kk : Nat) : Int) - 1 := by omega
    unfold clv
    rw [if_neg c, show (-(-((kk : Nat) : Int) - 1) - 1).toNat = kk by omega]
    have : tyNames.getD kk "" = n := by rw [List.getD_eq_getElem?_getD, hn]; rfl
    rw [this]
    exact r
  | @tyo c =>
    have e : k = ((c : Nat) : Int) := by simpa using hd
    subst e
    unfold clv
    rw [if_pos (by omega)]
    exact r
  | _ => first | cases hd | (simp at hd)
theorem cd_isiE {C : Ct} {js : List Nat} {ks : List Int} (F : EF C.K C.cl js ks) : CallD C (rIsE2 C.K C.cl) (dIsiE js ks) := fun G δ σ H xs ds p Q E r e q => by
  unfold dIsiE at e
  split at e
  · rename_i j k
    obtain ⟨v, w, rfl, rv, rw_⟩ := r.two_inv
    split at e
    · rename_i c
      obtain ⟨b, hb, rfl⟩ := opt_map e
      have hv : ∃ a jj, v = .ref a ∧ j = ((jj : Nat) : Int) ∧ H a = some (XO a (.ref (C.cl jj)) none) := by
        generalize hd : PyData.dict [(.none, .int j)] = d at rv
        cases rv with
        | @exc0 a cc h => exact ⟨a, cc, rfl, by simpa using hd, h⟩
        | _ => first | cases hd | (simp at hd)
      obtain ⟨a, jj, rfl, rfl, hx⟩ := hv
      rw [Int.toNat_natCast] at c hb
      exact .inl ⟨a, jj, w, clv C.cl k, b, rfl, hx, F.ec jj c.2.1, cls_rel rw_, F.ki jj c.2.1 k c.2.2 b hb, atom E q (.bl _)⟩
    · cases e
  · exact .inr (cd_isi G δ σ H xs _ p Q E r e q)
section
variable {C : Ct} {W : WX} {G : Gh} {X : Cx} {pos : Pos}
/-- an own class as a value -/
theorem pd_cls {x : Str} {c : Nat} (hg : Gl X x) (hm : X.mg x = some (.ref (C.cl c))) (hd : (x == ("__debug__" : Str)) = false := by decide) : PE X (.Name x pos) (tD C W G (gC (.dict [(.bool false, .int (c : Int))]))) :=
  pd_C (pe_glob (v := .ref (C.cl c)) hg hm rfl hd) fun W H => .tyo
/-- {} -/
theorem pd_dict0 : PE X (.Dict [] [] pos) (tD C W G (gC (.dict []))) := PE.imp pe_dnewK fun σ H Q ⟨δ, E, p⟩ => fun q hq => by
  have x : Ext δ σ H δ σ (upd H q (.dK [])) := Ext.grow hq
  exact p _ (E.grow hq fun ys e => by cases e).less x _ (.dct (fun z => E.wwH z hq) upd_same) fun z => nomatch z
end
theorem kit_ref {K : PySem.W.Frag} {D C : Addr} {b : Bool} (hd : PySem.W.hasDictIn K C = true) (ht : PySem.W.typeIn K (.ref C) = some (.type "type")) (hs : PySem.W.subIn K (.ref C) (.ref C) = some true) (h : PySem.W.subIn K (.ref D) (.ref C) = some b) : PySem.W.kitOne K (.ref D) (.ref C) = some b := by
  obtain ⟨cd, hc, _⟩ := PySem.W.any_some hd
  by_cases e : D = C
  · subst e
    rw [hs] at h
    unfold PySem.W.kitOne
    rw [if_pos (beq_self_eq_true _), h]
  · have e1 : ¬ ((Value.ref D == Value.ref C) = true) := fun z => e (Value.ref.inj (beq_iff_eq.mp z))
    have e2 : ((PySem.W.clsIn K C).isSome && PySem.W.typeIn K (.ref C) == some (.type "type")) = true := by rw [hc, ht] <;> rfl
    unfold PySem.W.kitOne PySem.W.kitCls
    rw [if_neg e1]
    dsimp only
    rw [if_pos e2]
    exact h
theorem kit_ve {K : PySem.W.Frag} {D : Addr} {b : Bool} (h : PySem.W.subIn K (.ref D) (.type "ValueError") = some b) : PySem.W.kitOne K (.ref D) (.type "ValueError") = some b := by
  have e1 : ¬ ((Value.ref D == Value.type "ValueError") = true) := by intro z; cases z
  have e2 : PySem.W.kitMeta "ValueError" = true := by decide +kernel
  unfold PySem.W.kitOne PySem.W.kitCls
  rw [if_neg e1]
  dsimp only
  rw [if_pos e2]
  exact h
theorem ei_of {x : Option Bool} {b0 b : Bool} (e : x = some b0) (hb : some b0 = some b) : x = some b := e.trans hb
end DL

namespace DL
open PySem PySem.Spec L2
open PyProof.Rows hiding St
section
variable {C : Ct} {W : WX} {G : Gh} {X : Cx} {δ δ1 : Sl} {σ : St} {H H1 : Hp}
/-- a dict that no slot may touch is changed -/
theorem ERel.updD {p : Addr} {kvs : List (Key × V)} (E : ERel C G δ σ H) (hF : G.F p) (hp : H p = some (.dK [])) : ERel C G δ σ (upd H p (.dK kvs)) ∧ ∀ v d, RepL C (WW G δ σ) H v d → RepL C (WW G δ σ) (upd H p (.dK kvs)) v d := by
  have hO : WW G δ σ p := .inl hF
  have ne : ∀ a o, H a = some o → o ≠ .dK [] → upd H p (.dK kvs) a = some o := fun a o h n => by
    by_cases e : a = p
    · rw [e, hp] at h; exact absurd (Option.some.inj h).symm n
    · rw [upd_ne e]; exact h
  have sq : ∀ {a : Addr} {xs : List V}, SqT C.K H a xs → SqT C.K (upd H p (.dK kvs)) a xs := fun h => by
    rcases h with (h | ⟨o, h⟩) | h
    · exact .inl (.inl (ne _ _ h fun z => nomatch z))
    · exact .inl (.inr ⟨o, ne _ _ h fun z => nomatch z⟩)
    · exact .inr h
  have sc : ∀ {a : Addr} {xs : List V}, ScrAt C.K H a xs → ScrAt C.K (upd H p (.dK kvs)) a xs := fun h => h.imp (fun ⟨o, z⟩ => ⟨o, ne _ _ z fun z => nomatch z⟩) id
  have mv : ∀ v d, Rep C (WW G δ σ) H v d → Rep C (WW G δ σ) (upd H p (.dK kvs)) v d := fun v d r =>
    Rep.rec (C := C) (W := WW G δ σ) (H := H) (motive_1 := fun v d _ => Rep C (WW G δ σ) (upd H p (.dK kvs)) v d) (motive_2 := fun v d _ => RepL C (WW G δ σ) (upd H p (.dK kvs)) v d)
      .non .bl .int .str (fun n h _ t => .lst n (ne _ _ h fun z => nomatch z) t) (fun h _ t => .scr (sc h) t) (fun h _ t => .tup (sq h) t) .tyb .tyo
      (fun {a} n h => .dct n (by
        have e : a ≠ p := fun e => n (e ▸ hO)
        rw [upd_ne e]; exact h))
      (fun {a ps} n h => .dki n (by
        have e : a ≠ p := fun e => n (e ▸ hO)
        rw [upd_ne e]; exact h))
      (fun h => .exc0 (ne _ _ h fun z => nomatch z)) (fun h g _ r => .exc1 (ne _ _ h fun z => nomatch z) (ne _ _ g fun z => nomatch z) r) .nil (fun _ _ r t => .cons r t) r
  have mvL : ∀ v d, RepL C (WW G δ σ) H v d → RepL C (WW G δ σ) (upd H p (.dK kvs)) v d := fun v d r => by
    induction d generalizing v with
    | nil => cases r; exact .nil
    | cons d ds ih =>
      cases r with
      | cons r t => exact .cons (mv _ _ r) (ih _ t)
  refine ⟨⟨E.len, fun i d e => ?_, fun i d e => ?_, E.inj, fun a z => ?_, fun a z => ?_, fun a zs z => ?_⟩, mvL⟩
  · obtain ⟨v, h1, h2⟩ := E.sh i d e
    exact ⟨v, h1, mv _ _ h2⟩
  · obtain ⟨a, zs, ds, h1, h2, h3, h4, h5, h6⟩ := E.ow i d e
    exact ⟨a, zs, ds, h1, h2, ne _ _ h3 (fun z => nomatch z), mvL _ _ h4, h5, h6⟩
  · by_cases e : a = p
    · rw [e, upd_same]; exact fun z => nomatch z
    · rw [upd_ne e]; exact E.fl a z
  · by_cases e : a = p
    · rw [e, upd_same]; exact fun z => nomatch z
    · rw [upd_ne e]; exact E.ol a z
  · by_cases e : a = p
    · rw [e, upd_same] at z; cases z
    · rw [upd_ne e] at z; exact E.sz a zs z
/-- with one more address that no slot may touch -/
theorem Post.plus {α : Type} {p : Addr} {k k' : α → Sl → Hp → Prop} {r : R Sl α} (x : Ext δ σ H δ σ H1) (h : Post C W G δ σ H k r)
    (i : ∀ y δ', (∀ H2, ERel C G δ' σ H2 → Ext δ σ H δ' σ H2 → k y δ' H2) → ∀ H', ERel C (G.plus p) δ' σ H' → Ext δ σ H1 δ' σ H' → k' y δ' H') : Post C W (G.plus p) δ σ H1 k' r := by
  cases r with
  | ok y δ' => exact fun H' E' X' => i y δ' h H' E' X'
  | exc c xs δ' => exact fun cls dct H' E' X' v => h cls dct H' E'.less (x.trans X') ⟨v.1, v.2.imp id fun ⟨dd, v, d, g1, g2, g3, g4⟩ => ⟨dd, v, d, g1, g2, g3, g4.weak fun b z => z.elim (fun q => .inl (.inl q)) .inr⟩⟩
  | stk => exact h.elim
/-- the pairs of a written dict: keys are texts -/
inductive PairsD (X : Cx) (C : Ct) (W : WX) (io : List Nat) : List (Option Expr) → List Expr → List Str → (Sl → R Sl (List D)) → Prop
  | nil : PairsD X C W io [] [] [] gaNil
  | cons {z z' : Str} {j : Nat} {p : Pos} {v : Expr} {g : Sl → EV} {ks : List (Option Expr)} {vs : List Expr} {zs : List Str} {gr : Sl → R Sl (List D)} (h : z' = z) (hv : ∀ G : Gh, G.io = io → PE X v (tD C W G g)) (hr : PairsD X C W io ks vs zs gr) :
    PairsD X C W io (some (.Constant (.str z') j p) :: ks) (v :: vs) (z :: zs) (gaCons g gr)
def tDy (C : Ct) (W : WX) (io : List Nat) (g : Sl → EV) : TE := fun σ H Q => ∃ G, G.io = io ∧ tD C W G g σ H Q
theorem pe_dy {io : List Nat} {e : Expr} {g : Sl → EV} (h : ∀ G : Gh, G.io = io → PE X e (tD C W G g)) : PE X e (tDy C W io g) := ⟨fun pins s σ H Q I ⟨G, h1, h2⟩ => (h G h1).run pins s σ H Q I h2⟩
def pairsOf : List Str → List V → List (V × V)
  | z :: zs, v :: vs => (.str z, v) :: pairsOf zs vs
  | _, _ => []
def keysOf : List Str → List V → List (Key × V)
  | z :: zs, v :: vs => (.inr z, v) :: keysOf zs vs
  | _, _ => []
theorem pairs_keys : ∀ (zs : List Str) (vs : List V), pairsOf zs vs = (keysOf zs vs).map fun kv => (kV kv.1, kv.2)
  | [], _ => by cases ‹List V› <;> rfl
  | _ :: _, [] => rfl
  | z :: zs, v :: vs => by
    show (V.str z, v) :: pairsOf zs vs = (V.str z, v) :: _
    rw [pairs_keys zs vs]
theorem PairsD.pps {io : List Nat} {ks : List (Option Expr)} {vs : List Expr} {zs : List Str} {gr : Sl → R Sl (List D)} (pos : Pos) (h : PairsD X C W io ks vs zs gr) : ∃ trs, PPs X pos ks vs trs ∧
    ∀ (G : Gh) (σ : St) (δ : Sl) (H : Hp) (K : List (V × V) → Hp → Prop), G.io = io → ERel C G δ σ H → Post C W G δ σ H (fun ds δ' H' => ∀ us, RepL C (WW G δ' σ) H' us ds → us.length = zs.length → K (pairsOf zs us) H') (gr δ) → tPairs trs σ H K := by
  induction h with
  | nil =>
    refine ⟨[], pps_nil, fun G σ δ H K hio E p => ?_⟩
    exact p H E Ext.refl [] .nil rfl
  | @cons z z' j p v g ks vs zs gr hz hv hr ih =>
    subst hz
    obtain ⟨trs, h1, h2⟩ := ih
    refine ⟨(tC (.str z'), tDy C W io g) :: trs, pps_cons pe_str (pe_dy hv) h1, fun G σ δ H K hio E p => ?_⟩
    refine ⟨G, hio, δ, E, ?_⟩
    refine (Post.bind p).imp fun x δ1 H1 E1 X1 p1 u ru _ => ?_
    refine h2 G σ δ1 H1 _ hio E1 ?_
    refine (Post.bind p1).imp fun ys δ2 H2 E2 X2 p2 us rus lu => ?_
    exact p2 H2 E2 Ext.refl (u :: us) (.cons (X2.rep ru) rus) (congrArg (· + 1) lu)
/-- the value of a text -/
def dLook : List Str → List D → D → Option (D × Bool)
  | z :: zs, x :: xs, .str y => if y = z then some (x, false) else dLook zs xs (.str y)
  | _, _, _ => none
theorem valV_app {kvs : List (Key × V)} {k : Key} {v : V} {k' : Key} (h : valV kvs k' = none) : valV (kvs ++ [(k, v)]) k' = if k = k' then some v else none := by
  unfold valV at h ⊢
  rw [List.find?_append]
  cases e : kvs.find? fun kv => decide (kv.1 = k') with
  | some x => rw [e] at h; cases h
  | none =>
    by_cases c : k = k'
    · simp [c]
    · simp [c]
theorem valV_app1 {kvs : List (Key × V)} {k : Key} {v u : V} {k' : Key} (h : valV kvs k' = some u) : valV (kvs ++ [(k, v)]) k' = some u := by
  unfold valV at h ⊢
  rw [List.find?_append]
  cases e : kvs.find? fun kv => decide (kv.1 = k') with
  | some x => rw [e] at h; simpa using h
  | none => rw [e] at h; cases h
theorem look_ok {W' : Addr → Prop} : ∀ (zs : List Str) (us : List V) (ds : List D) (kvs : List (Key × V)) (y : Str) (p : D × Bool), zs.Nodup → RepL C W' H us ds → us.length = zs.length → (∀ z ∈ zs, valV kvs (.inr z) = none) → valV kvs (.inr y) = none → dLook zs ds (.str y) = some p →
    ∃ v, valV (mergeK kvs (keysOf zs us)) (.inr y) = some v ∧ Rep C W' H v p.1 ∧ p.2 = false := by
  have keep : ∀ (zs : List Str) (us : List V) (kvs : List (Key × V)) (y : Str) (v : V), zs.Nodup → (∀ z ∈ zs, valV kvs (.inr z) = none) → valV kvs (.inr y) = some v → valV (mergeK kvs (keysOf zs us)) (.inr y) = some v := by
    intro zs
    induction zs with
    | nil => intro us kvs y v _ _ h; cases us <;> exact h
    | cons z zs ih =>
      intro us kvs y v hn hz h
      cases us with
      | nil => exact h
      | cons u us =>
        show valV (mergeK (putK kvs (.inr z) u) (keysOf zs us)) (.inr y) = some v
        have e : putK kvs (.inr z) u = kvs ++ [(.inr z, u)] := by
          unfold putK
          rw [valV_any, hz z (List.mem_cons_self ..)]
          rfl
        rw [e]
        refine ih us _ y v (List.nodup_cons.mp hn).2 (fun z' h' => ?_) (valV_app1 h)
        rw [valV_app (hz z' (List.mem_cons_of_mem _ h'))]
        refine if_neg fun q => ?_
        cases q
        exact (List.nodup_cons.mp hn).1 h'
  intro zs
  induction zs with
  | nil => intro us ds kvs y p _ _ _ _ _ h; unfold dLook at h; cases h
  | cons z zs ih =>
    intro us ds kvs y p hn r hl hz hy h
    cases r with
    | nil => cases h
    | @cons u us d ds r t =>
      have e : putK kvs (.inr z) u = kvs ++ [(.inr z, u)] := by
        unfold putK
        rw [valV_any, hz z (List.mem_cons_self ..)]
        rfl
      have hz' : ∀ z' ∈ zs, valV (kvs ++ [((.inr z : Key), u)]) (.inr z') = none := fun z' h' => by
        rw [valV_app (hz z' (List.mem_cons_of_mem _ h'))]
        refine if_neg fun q => ?_
        cases q
        exact (List.nodup_cons.mp hn).1 h'
      show ∃ v, valV (mergeK (putK kvs (.inr z) u) (keysOf zs us)) (.inr y) = some v ∧ _
      rw [e]
      unfold dLook at h
      by_cases c : y = z
      · rw [if_pos c] at h
        cases h
        subst c
        refine ⟨u, keep zs us _ y u (List.nodup_cons.mp hn).2 hz' ?_, r, rfl⟩
        rw [valV_app hy, if_pos rfl]
      · rw [if_neg c] at h
        refine ih us ds _ y p (List.nodup_cons.mp hn).2 t (Nat.succ.inj hl) hz' ?_ h
        rw [valV_app hy]
        exact if_neg fun q => c (by cases q; rfl)
def gDictIx (zs : List Str) (gr : Sl → R Sl (List D)) (gk : Sl → EV) : Sl → EV := fun δ => (gr δ).bind fun xs δ1 => (gk δ1).bind fun y δ2 => fin (dLook zs xs y.1) δ2
theorem keysOf_length : ∀ (zs : List Str) (us : List V), (keysOf zs us).length ≤ zs.length
  | [], us => by cases us <;> exact Nat.zero_le _
  | _ :: _, [] => Nat.zero_le _
  | z :: zs, u :: us => Nat.succ_le_succ (keysOf_length zs us)
theorem pd_dictIx {io : List Nat} {ks : List (Option Expr)} {vs : List Expr} {zs : List Str} {gr : Sl → R Sl (List D)} {gk : Sl → EV} {k : Expr} {dp pos : Pos} (hio : G.io = io) (hu : X.A.units + 1 < cLine) (h : PairsD X C W io ks vs zs gr) (hk : ∀ G : Gh, G.io = io → PE X k (tD C W G gk))
    (hn : zs.Nodup := by decide +kernel) (h15 : zs.length ≤ 15 := by decide) (hall : ks.all (·.isSome) = true := by rfl) (hl : ks.length = vs.length := by rfl) (h0 : ks ≠ [] := by exact fun z => nomatch z) (hk15 : ks.length ≤ 15 := by decide) (hs : NoSl k := by exact fun _ _ => rfl) :
    PE X (.Subscript (.Dict ks vs dp) k pos) (tD C W G (gDictIx zs gr gk)) := by
  obtain ⟨trs, h1, h2⟩ := h.pps dp
  refine PE.imp (pe_dget hu (pe_disp h1 hall hl h0 hk15) (pe_dy hk) hs) fun σ H Q ⟨δ, E, p⟩ => ?_
  intro q hq
  have E0 : ERel C (G.plus q) δ σ (upd H q (.dK [])) := E.grow hq fun ys e => by cases e
  have X0 : Ext δ σ H δ σ (upd H q (.dK [])) := Ext.grow hq
  have Fq : (G.plus q).F q := .inr rfl
  have wk : ∀ δ' b, WW G δ' σ b → WW (G.plus q) δ' σ b := fun δ' b z => z.elim (fun w => .inl (.inl w)) .inr
  refine h2 (G.plus q) σ δ _ _ hio E0 ?_
  refine Post.plus X0 (Post.bind p) fun xs δ1 hk1 H1 E1 X1 us rus lu => ?_
  have d1 : H1 q = some (.dK []) := X1.kp q _ upd_same fun _ _ z => nomatch z
  refine ⟨d1, keysOf zs us, pairs_keys zs us, Nat.le_trans (keysOf_length zs us) h15, ?_⟩
  obtain ⟨E1', mv⟩ := E1.updD (kvs := mergeK [] (keysOf zs us)) Fq d1
  have Xd : Ext δ σ H δ1 σ H1 := X0.trans X1
  have Xc : Ext δ σ H δ1 σ (upd H1 q (.dK (mergeK [] (keysOf zs us)))) := by
    refine ⟨fun a o h n => ?_, fun a n => ?_, Xd.own⟩
    · rw [upd_ne (ne_of_none h hq)]
      exact Xd.kp a o h n
    · by_cases e : a = q
      · rw [e, upd_same]; exact fun z => nomatch z
      · rw [upd_ne e]; exact Xd.th a n
  have p1 := hk1 _ E1'.less Xc
  refine ⟨G.plus q, hio, δ1, E1', ?_⟩
  refine Post.plus Ext.refl (Post.bind p1) fun y δ2 hk2 H2 E2 X2 w rw _ => ?_
  have d2 : H2 q = some (.dK (mergeK [] (keysOf zs us))) := X2.kp q _ upd_same fun _ _ z => nomatch z
  obtain ⟨pr, e2, p3⟩ := fin_ok (hk2 H2 E2.less X2)
  obtain ⟨y, fy⟩ := y
  cases y with
  | str y =>
    cases rw
    obtain ⟨v, e3, rv, fl⟩ := look_ok (H := H2) (W' := WW (G.plus q) δ2 σ) zs us xs [] y pr hn (X2.repL (mv _ _ rus)) lu (fun _ _ => rfl) rfl e2
    refine ⟨q, v, rfl, ?_, ?_⟩
    · rw [← e3]
      exact DGet.k (k := .inr y) d2
    · exact p3 H2 E2.less Ext.refl v (rv.weak (wk δ2)) fun z => by rw [fl] at z; cases z
  | none => unfold dLook at e2; split at e2 <;> first | contradiction | cases e2
  | bool _ => unfold dLook at e2; split at e2 <;> first | contradiction | cases e2
  | int _ => unfold dLook at e2; split at e2 <;> first | contradiction | cases e2
  | list _ => unfold dLook at e2; split at e2 <;> first | contradiction | cases e2
  | tuple _ => unfold dLook at e2; split at e2 <;> first | contradiction | cases e2
  | dict _ => unfold dLook at e2; split at e2 <;> first | contradiction | cases e2
end
end DL

namespace DL
open PySem PySem.Spec L2
open PyProof.Rows hiding St
theorem u1 {k : Nat} {A : Around} (h : Room k A) : A.units + 1 < cLine := by have := h.un; omega
def dMulI : DOp
  | .int i, .int j => if bitsOk ((Builtin.Int.intBits i : Int) + (Builtin.Int.intBits j : Int)) then some (.int (i * j), false) else none
  | _, _ => none
theorem iop_mulX {X : Cx} : OpR X (inplaceOp .Mult) (rI CMulX fun i j => .int (i * j)) := opI fun _ _ _ _ _ _ _ hc q => imul_int q hc.ok
theorem od_mulI {C : Ct} : OpD C (rI CMulX fun i j => .int (i * j)) dMulI := ok_I (h := fun i j => .int (i * j)) (fun v w p e => by
  unfold dMulI at e
  split at e
  · split at e
    · rename_i c
      exact ⟨_, _, rfl, rfl, (Option.some.inj e).symm, (show _ ≤ _ from of_decide_eq_true c)⟩
    · cases e
  · cases e) fun i j W H => .int _
theorem filterMap_self {α : Type} : ∀ ys : List α, (List.range ys.length).filterMap (fun k => ys[k]?) = ys
  | [] => rfl
  | y :: ys => by
    rw [List.length_cons, List.range_succ_eq_map, List.filterMap_cons, List.filterMap_map]
    show y :: (List.range ys.length).filterMap (fun k => ys[k]?) = _
    rw [filterMap_self ys]
theorem fm_congr {α β : Type} {f g : α → Option β} : ∀ l : List α, (∀ k ∈ l, f k = g k) → l.filterMap f = l.filterMap g
  | [], _ => rfl
  | k :: l, h => by
    rw [List.filterMap_cons, List.filterMap_cons, h k (List.mem_cons_self ..), fm_congr l fun x hx => h x (List.mem_cons_of_mem _ hx)]
theorem pick_rev (its : List Value) : slicePick its.toArray none none (some (-1)) = its.reverse.toArray := by
  have e1 : sliceBounds none none (some (-1)) its.toArray.size = ((its.length : Int) - 1, -1, -1) := by
    simp [sliceBounds]
  have e2 : sliceRange ((its.length : Int) - 1) (-1) (-1) = (List.range its.length).map fun k => its.length - 1 - k := by
    unfold sliceRange
    have c : (if (-1 : Int) > 0 then (if (its.length : Int) - 1 < -1 then (-1 - ((its.length : Int) - 1) + -1 - 1) / -1 else 0) else (if (its.length : Int) - 1 > -1 then ((its.length : Int) - 1 - -1 - -1 - 1) / (- -1) else 0)) = (its.length : Int) := by
      rw [if_neg (by omega)]
      by_cases z : its.length = 0
      · rw [if_neg (by omega)]; omega
      · rw [if_pos (by omega), show -(-1 : Int) = 1 by decide, Int.ediv_one]; omega
    rw [c]
    show (List.range its.length).map _ = _
    refine List.map_congr_left fun k hk => ?_
    have := List.mem_range.mp hk
    omega
  unfold slicePick
  rw [e1]
  dsimp only
  rw [e2, List.filterMap_map]
  congr 1
  have e3 : ∀ k ∈ List.range its.length, (fun x => its.toArray[x]?) (its.length - 1 - k) = its.reverse[k]? := fun k hk => by
    rw [List.getElem?_reverse (List.mem_range.mp hk)]
    simp
  have e4 := filterMap_self its.reverse
  rw [List.length_reverse] at e4
  conv => rhs; rw [← e4]
  exact fm_congr _ e3
section
variable {C : Ct} {W : WX} {G : Gh} {X : Cx} {ga gb : Sl → EV} {a b st : Expr} {p2 pos : Pos}
def tRev (K : PySem.W.Frag) (te : TE) : TE := fun σ H Q => te σ H fun x H1 => ∃ a xs, x = .ref a ∧ SqL K H1 a xs ∧ ∀ p, H1 p = none → Q (.ref p) (upd H1 p (.lst xs.reverse))
theorem vals_reverse : ∀ {xs : List V} {us : List Value}, Vals xs us → Vals xs.reverse us.reverse := by
  intro xs us r
  induction r with
  | nil => exact .nil
  | cons h t ih =>
    rw [List.reverse_cons, List.reverse_cons]
    exact ih.append (.cons h .nil)
theorem pe_m1 {j : Nat} {p p' : Pos} : PE X (.UnaryOp .USub (.Constant (.int 1) j p) p') (tC (.int (-1))) := PE.imp (pe_un un_neg pe_int) fun σ H Q q => ⟨1, rfl, q⟩
theorem pe_rev {te : TE} {j : Nat} {q1 q2 : Pos} (he : PE X a te) : PE X (.Subscript a (.Slice none none (some (.UnaryOp .USub (.Constant (.int 1) j q1) q2)) p2) pos) (tRev X.K te) := by
  have hst : PE X (.UnaryOp .USub (.Constant (.int 1) j q1) q2) (tC (.int (-1))) := pe_m1
  refine ⟨fun pins s σ H Q I h => ?_⟩
  refine Subscript_ (thn (he.run pins s σ H _ I h) fun v s1 ⟨x, H1, I1, r1, q1⟩ => ?_)
  refine wpAny_Slice ?_
  rw [evalPart_none]
  refine wpAny_pure ?_
  refine wpAny_pure ?_
  refine thn ((po_some hst).run pins s1 σ H1 (fun i H' => i = some (-1) ∧ H' = H1) I1 ⟨-1, rfl, rfl, rfl⟩) fun vs s3 ⟨i, H3, I3, ps, ei, eH⟩ => ?_
  subst ei eH
  have I4 : Inv X pins σ H3 { s3 with heap := s3.heap.push { cls := .type "slice", data := .fields #[.none, .none, vs] } } := I3.kept (t' := s3.toks) fun b ob q => Heap.get?_push_of_some _ q
  obtain ⟨l, xs, rfl, hx, q⟩ := q1
  cases r1
  obtain ⟨its, r, ht, hz⟩ := I4.list hx
  have hlen := r.length
  refine tail_any (ops := [.ref l, .ref s3.heap.objs.size]) ht.isList.typeIs slot_list_getitem.lookup ?_ (by with_unfolding_all rfl)
  refine wpAny_getItem_list_slice ht.isList (Heap.IsSliceOf.new ..) .none .none ps (by decide) ?_ (by rw [List.size_toArray] <;> omega)
  rw [pick_rev]
  refine ⟨.ref _, _, I4.laid (t' := s3.toks) (o := .lst xs.reverse) (fun b ob q => Heap.get?_push_of_some _ q) (Nat.le_refl _) ?_, rfl, q _ (I4.hok.fresh (Nat.le_refl _))⟩
  exact ⟨by rw [List.length_reverse]; exact hz, _, 0, vals_reverse r, Heap.get?_push_size _ rfl⟩
def gRev (ga : Sl → EV) : Sl → EV := fun δ => (ga δ).bind fun x δ1 => match x.1 with
  | .list xs => .ok (.list xs.reverse, true) δ1
  | _ => .stk
theorem RepL.rev {W' : Addr → Prop} {H : Hp} : ∀ {vs : List V} {ds : List D}, RepL C W' H vs ds → RepL C W' H vs.reverse ds.reverse
  | _, _, .nil => .nil
  | _, _, .cons r t => by
    rw [List.reverse_cons, List.reverse_cons]
    exact (RepL.rev t).append (RepL.one r)
theorem pd_rev {j : Nat} {q1 q2 : Pos} (ha : PE X a (tD C W G ga)) (hK : X.K = C.K := by rfl) : PE X (.Subscript a (.Slice none none (some (.UnaryOp .USub (.Constant (.int 1) j q1) q2)) p2) pos) (tD C W G (gRev ga)) :=
  PE.imp (hK ▸ pe_rev ha) fun σ H Q ⟨δ, E, p⟩ => ⟨δ, E, (Post.bind p).imp fun x δ1 H1 E1 X1 p1 v rv fv => by
    obtain ⟨d, fr⟩ := x
    clear fv
    cases d <;> first | exact (show False from p1).elim | skip
    rename_i xs
    cases rv with
    | lst n h r =>
      refine ⟨_, _, rfl, SqL.of h, fun q hq => ?_⟩
      have p2 : Post C W G δ1 σ H1 (kE C G δ1 σ H1 Q) (.ok (.list xs.reverse, true) δ1) := p1.at X1
      exact newl E1 (fun u H' E' X' r' f' => p2 H' E' X' u r' f') r.rev (by rw [List.length_reverse]; exact E1.sz _ _ h) hq⟩
def gLstRg1 (ga : Sl → EV) : Sl → EV := fun δ => (ga δ).bind fun x δ1 => match x.1 with
  | .int j => if rgOk 0 j then .ok (.list (rgD 0 j), true) δ1 else .stk
  | _ => .stk
theorem pd_listRg1 {p pos p' pos' : Pos} (hc : X.calm = true) (hg : Gl X "list") (hm : X.mg "list" = none) (hg' : Gl X "range") (hm' : X.mg "range" = none) (ha : PE X a (tD C W G ga))
    (na : starEach [a] X.env = (false, eval a X.env) :: starEach [] X.env := by rfl)
    (nc : starEach [.Call (.Name "range" p') [a] [] pos'] X.env = (false, eval (.Call (.Name "range" p') [a] [] pos') X.env) :: starEach [] X.env := by rfl) :
    PE X (.Call (.Name "list" p) [.Call (.Name "range" p') [a] [] pos'] [] pos) (tD C W G (gLstRg1 ga)) :=
  PE.imp (pe_listRg hc hg hm (prg_1 hg' hm' ha na) nc) fun σ H Q ⟨δ, E, p⟩ => ⟨δ, E, (Post.bind p).imp fun x δ1 H1 E1 X1 p1 v rv fv => by
    obtain ⟨x, fx⟩ := x
    clear fv
    cases x <;> first | exact (show False from p1).elim | skip
    rename_i j
    cases rv
    have p3 : Post C W G δ1 σ H1 (kE C G δ1 σ H1 Q) (if rgOk 0 j then .ok (.list (rgD 0 j), true) δ1 else .stk) := p1.at X1
    split at p3
    · rename_i hr
      have ok := rgOk_ok hr
      exact ⟨j, rfl, ok, fun q hq => newl E1 (fun u H' E' X' r' f' => p3 H' E' X' u r' f') (rg_rep 0 j) (by rw [rgV_length, sizeLine_eq]; have := ok.2.2.2.2; omega) hq⟩
    · exact p3.elim⟩
end
end DL

namespace DL
open PySem PySem.Spec L2
open PyProof.Rows hiding St
section
variable {C : Ct} {W : WX} {G : Gh} {X : Cx} {e : Expr} {pos : Pos}
theorem Bor.dp {W' : Addr → Prop} {H : Hp} {v : V} {d : D} (h : Bor C W' H v d) (z : PyData.canLay0 d = true) : Dp C.K H v d := by
  rcases h with h | ⟨a, xs, ds, rfl, rfl, h, r⟩
  · exact h.dp z
  · exact .lst (SqL.of h) (RepL.dp r (by simpa [PyData.canLay0] using z))
def gReprV (i : Nat) : Sl → EV := fun δ => match slotD i δ with
  | some d => fin (dRepr [d]) δ
  | none => .stk
theorem pd_reprV {i : Nat} {p : Pos} (hc : CallR X (.builtin "repr") (rRepr C.K)) (hg : Gl X "repr") (hm : X.mg "repr" = none) (ha : PE X e (tVar i))
    (he : starEach (e :: []) X.env = (false, eval e X.env) :: starEach [] X.env := by rfl) : PE X (.Call (.Name "repr" p) [e] [] pos) (tD C W G (gReprV i)) :=
  PE.imp (pe_callB hc hg hm boot_repr (pa_cons ha pa_nil he) (by decide) (by decide) he rfl) fun σ H Q ⟨δ, E, p⟩ => by
    unfold gReprV at p
    split at p
    · rename_i d hd
      obtain ⟨v, hv, rb⟩ := E.slot hd
      obtain ⟨q, e1, p1⟩ := fin_ok p
      unfold dRepr at e1
      dsimp only at e1
      by_cases c : (d.showable && !d.hasDict && d.canLay0 && decide (d.depth ≤ 64) && decide (d.shown.length ≤ LINE)) = true
      · rw [if_pos c] at e1
        obtain rfl := Option.some.inj e1
        simp only [Bool.and_eq_true, decide_eq_true_eq, Bool.not_eq_true'] at c
        obtain ⟨⟨⟨⟨c1, c2⟩, c3⟩, c4⟩, c5⟩ := c
        exact ⟨v, hv, v, d, rfl, rb.dp c3, c1, c2, c4, by rw [← line_eq]; exact c5, now E p1 _ (.str _) fun z => nomatch z⟩
      · rw [if_neg c] at e1
        cases e1
    · exact p.elim
end
end DL

namespace DL
open PySem PySem.Spec L2
open PyProof.Rows hiding St
section
variable {C : Ct} {W : WX} {G : Gh} {X : Cx} {a b : Expr} {gb : Sl → EV} {pos : Pos}
theorem Bor.str {W' : Addr → Prop} {H : Hp} {v : V} {x : Str} (h : Bor C W' H v (.str x)) : v = .str x := by
  rcases h with h | ⟨a, xs, ds, rfl, e, _⟩
  · cases h; rfl
  · cases e
theorem bo_neA : BopL C (rNeA C.K) dNeA := fun G δ σ H x y v w e Q E rx ry he q => by
  unfold dNeA at he
  split at he
  · cases he
    have := rx.str
    subst this
    cases ry
    exact .inl ⟨_, _, rfl, rfl, q _ (.bl _)⟩
  · right
    unfold dNe at he
    split at he
    · rename_i c
      rw [Bool.and_eq_true] at c
      cases he
      exact ⟨v, w, rx.dp (SeqAt.canLay_of_shaped c.1), ry.dps c.2, c.1, c.2, q _ (.bl _)⟩
    · cases he
theorem bo_eqA : BopL C (rEqA C.K) dEqA := fun G δ σ H x y v w e Q E rx ry he q => by
  unfold dEqA at he
  split at he
  · cases he
    have := rx.str
    subst this
    cases ry
    exact .inl ⟨_, _, rfl, rfl, q _ (.bl _)⟩
  · right
    unfold dEq at he
    split at he
    · rename_i c
      rw [Bool.and_eq_true] at c
      cases he
      exact ⟨v, w, rx.dp (SeqAt.canLay_of_shaped c.1), ry.dps c.2, c.1, c.2, q _ (.bl _)⟩
    · cases he
theorem pd_cmpSlotL {op : CmpOp} {r : R2} {f : DOp} {i : Nat} (ho : OpR X (compareOp op) r) (od : BopL C r f) (ha : PE X a (tVar i)) (hb : PE X b (tD C W G gb)) (hm : behindInMarks op b = false) : PE X (.Compare a [op] [b] pos) (tD C W G (gSlotBin f i gb)) :=
  PE.imp (pe_cmpR ho ha hb hm) (tD_slotBin od)
theorem ptd_cmpSlotL {op : CmpOp} {r : R2} {f : DOp} {i : Nat} (ho : OpR X (compareOp op) r) (od : BopL C r f) (ha : PE X a (tVar i)) (hb : PE X b (tD C W G gb)) (hm : behindInMarks op b = false) : PT X (.Compare a [op] [b] pos) (tT C W G (gTv (gSlotBin f i gb))) :=
  PT.imp (pt_cmpR ho ha hb hm) fun σ H Q h => tD_slotBin od σ H _ (tD_tv σ H Q h)
end
end DL

namespace DL
open PySem PySem.Spec L2
open PyProof.Rows hiding St
section
variable {C : Ct} {W : WX} {G : Gh} {X : Cx} {a : Expr} {ga : Sl → EV} {pos : Pos}
def sExtend (i : Nat) (ga : Sl → EV) : Sl → SV := fun δ => match δ[i]? with
  | some (some (true, .list _)) => (ga δ).bind fun x δ1 => match δ1[i]?, x.1 with
    | some (some (true, .list ds)), .list es => if ds.length + es.length ≤ LINE then .ok .nx (δ1.set i (some (true, .list (ds ++ es)))) else .stk
    | _, _ => .stk
  | _ => .stk
theorem psd_extend {i : Nat} {x : Str} {apos pos' pos2 : Pos} (ha : PE X a (tD C W G ga)) (hx : PE X (.Name x pos') (tVar i)) (hp : PE X (.Call (.Attribute (.Name x pos') "extend" apos) [a] [] pos) (tBM X.K "list" rExtend (tVar i) (tCons (tD C W G ga) tNil)))
    (hs : swapsWith (.Call (.Attribute (.Name x pos') "extend" apos) [a] [] pos) none pos2.line X.env = pure false := by rfl) : PS X (.Expr (.Call (.Attribute (.Name x pos') "extend" apos) [a] [] pos) pos2) (tS C W G (sExtend i ga)) :=
  PS.imp (ps_expr hp hs) fun D σ H ⟨δ, E, p⟩ => by
    unfold sExtend at p
    split at p
    · rename_i ds0 h0
      obtain ⟨l, xs0, ds, h1, h2, h3, h4, _⟩ := E.ow i _ h0
      refine ⟨_, h1, .inl ⟨rfl, _, SqL.of h3⟩, δ, E, (PostS.bindE p).imp fun y δ1 H1 E1 X1 p1 v rv _ => ?_⟩
      split at p1
      · rename_i ds1 es h1' hy
        obtain ⟨l', xs1, ds1', g1, g2, g3, g4, _⟩ := E1.ow i _ h1'
        rw [h1] at g1; cases g1; cases g2
        have rv' : Rep C (WW G δ1 σ) H1 v (.list es) := hy ▸ rv
        cases rv' with
        | @lst b zs _ nb hb rb =>
          split at p1
          · rename_i hl
            rw [line_eq, ← g4.length, ← rb.length] at hl
            obtain ⟨E2, X2⟩ := E1.updOwn h1' h1 g3 (ys := xs1 ++ zs) (es := ds1 ++ es) (by rw [List.length_append]; exact hl) (g4.append rb)
            exact ⟨l, b, xs1, zs, rfl, rfl, g3, hb, hl, p1 _ _ E2 X2 IoK.refl⟩
          · exact (show False from p1).elim
      · exact (show False from p1).elim
    · exact (show False from p).elim
end
end DL

namespace DL
open PySem PySem.Spec L2
open PyProof.Rows hiding St
section
variable {C : Ct} {W : WX} {G : Gh} {δ δ1 : Sl} {σ : St} {H H1 : Hp} {X : Cx} {a b e : Expr} {ga gb : Sl → EV} {pos : Pos} {io : List Nat}
theorem ps_parT {i j : Nat} {x y : Str} {a b : Expr} {ta : TA} {px py pt : Pos} {kt k2 pt2} (hc : X.calm = true) (hN : X.N.Nodup) (hi : X.N[i]? = some x) (hj : X.N[j]? = some y)
    (hx : Loc X.env.scope x) (hy : Loc X.env.scope y) (fx : X.fn x = true ∨ X.env.scope.names.lookup x = some .local) (fy : X.fn y = true ∨ X.env.scope.names.lookup y = some .local) (ha : PA X [a, b] ta)
    (hw : swappedStores [.Tuple [.Name x px, .Name y py] kt pt] (.Tuple [a, b] k2 pt2) X.env = pure none)
    (hs : swapsWithSole [.Tuple [.Name x px, .Name y py] kt pt] (.Tuple [a, b] k2 pt2) pos.line X.env = pure false)
    (h1 : (assignEach [.Tuple [.Name x px, .Name y py] kt pt] X.env).map (·.2) = [assign (.Tuple [.Name x px, .Name y py] kt pt) X.env])
    (hn : (assignEach [.Name x px, .Name y py] X.env).length = 2) (hst : (assignEach [.Name x px, .Name y py] X.env).findIdx? (·.1) = none)
    (hm : (assignEach [.Name x px, .Name y py] X.env).map (·.2) = [assign (.Name x px) X.env, assign (.Name y py) X.env]) :
    PS X (.Assign [.Tuple [.Name x px, .Name y py] kt pt] (.Tuple [a, b] k2 pt2) pos) (tPar i j ta) := by
  refine ⟨fun pins s σ H D I h => ?_⟩
  refine wpAny_Assign_stores (Tuple_ (thn (ha.run _ pins s σ H _ I h) fun us s1 ⟨vs, H1, I1, r1, q1⟩ => ?_)) hs hw
  obtain ⟨v, w, e1, q1⟩ := q1
  subst e1
  obtain ⟨u1, u2, rfl, rv, rw'⟩ : ∃ u1 u2, us = [u1, u2] ∧ RelV v u1 ∧ RelV w u2 := by
    cases r1 with
    | cons p q =>
      cases q with
      | cons p' q' =>
        cases q'
        exact ⟨_, _, rfl, p, p'⟩
  refine wpAny_newObj_type ?_ (by show 2 ≤ sizeLine; decide)
  have I2 : Inv X pins σ H1 { s1 with heap := s1.heap.push { cls := .type "tuple", data := .seq [u1, u2].toArray } } := I1.kept (t' := s1.toks) fun b o e => Heap.get?_push_of_some _ e
  rw [h1]
  refine assign_Tuple_tuple (items := #[u1, u2]) (I.ok.hd hc) (IsTup.new s1.heap _) hn hst fun h' hx' => ?_
  have I3 := I2.kept (h' := h') (t' := s1.toks) fun b o e => hx' b o (Nat.ne_of_lt (Heap.lt_size e)) e
  rw [hm]
  show wpAny _ _ (assignInOrder [assign (.Name x px) X.env, assign (.Name y py) X.env] [u1, u2]) _ _ _
  refine assignInOrder_cons (wpAny_assign_Name (store_ok I3 hN hi hx rv (fun s2 I4 => ?_) fx))
  refine assignInOrder_cons (wpAny_assign_Name (store_ok I4 hN hj hy rw' (fun s3 I5 => assignInOrder_nil ?_) fy))
  exact ⟨_, H1, I5, q1⟩
theorem psd_parT {i j : Nat} {x y : Str} {px py pt : Pos} {kt k2 pt2} (hio : G.io = io) (hc : X.calm = true) (hN : X.N.Nodup) (hi : X.N[i]? = some x) (hj : X.N[j]? = some y) (hij : i ≠ j)
    (hx : Loc X.env.scope x) (hy : Loc X.env.scope y) (ha : PE X a (tD C W G ga)) (hb : ∀ G', G'.io = io → PE X b (tD C W G' gb))
    (hw : swappedStores [.Tuple [.Name x px, .Name y py] kt pt] (.Tuple [a, b] k2 pt2) X.env = pure none := by rfl)
    (hs : swapsWithSole [.Tuple [.Name x px, .Name y py] kt pt] (.Tuple [a, b] k2 pt2) pos.line X.env = pure false := by rfl)
    (na : starEach [a, b] X.env = (false, eval a X.env) :: starEach [b] X.env := by rfl) (nb : starEach [b] X.env = (false, eval b X.env) :: starEach [] X.env := by rfl)
    (fx : X.fn x = true ∨ X.env.scope.names.lookup x = some .local := by first | exact .inl rfl | exact .inr rfl | assumption) (fy : X.fn y = true ∨ X.env.scope.names.lookup y = some .local := by first | exact .inl rfl | exact .inr rfl | assumption)
    (h1 : (assignEach [.Tuple [.Name x px, .Name y py] kt pt] X.env).map (·.2) = [assign (.Tuple [.Name x px, .Name y py] kt pt) X.env] := by rfl)
    (hn : (assignEach [.Name x px, .Name y py] X.env).length = 2 := by rfl) (hst : (assignEach [.Name x px, .Name y py] X.env).findIdx? (·.1) = none := by rfl)
    (hm : (assignEach [.Name x px, .Name y py] X.env).map (·.2) = [assign (.Name x px) X.env, assign (.Name y py) X.env] := by rfl) :
    PS X (.Assign [.Tuple [.Name x px, .Name y py] kt pt] (.Tuple [a, b] k2 pt2) pos) (tS C W G (sPar G.io i j ga gb)) := by
  have hb' : PE X b (tDw C W io gb) := ⟨fun pins s σ H Q I ⟨G', h1, h2⟩ => (hb G' h1).run pins s σ H Q I h2⟩
  refine PS.imp (ps_parT hc hN hi hj hx hy fx fy (pa_cons ha (pa_cons hb' pa_nil nb) na) hw hs h1 hn hst hm) fun D σ H ⟨δ, E, p⟩ => ⟨δ, E, ?_⟩
  unfold sPar gPair at p
  cases q1 : ga δ with
  | exc c xs d => rw [q1] at p; exact fun cls dct H' E' X' v => p cls dct σ H' E' X' IoK.refl v
  | stk => rw [q1] at p; exact p
  | ok u δ1 =>
  rw [q1] at p
  intro H1 E1 X1 v rv fv
  -- the second value is reckoned while the first list, if new, is nobody's
  have go : ∀ G1 : Gh, G1.io = io → G1.Old = G.Old → (∀ b, G1.F b ↔ G.F b ∨ (u.2 = true ∧ v = .ref b)) → ERel C G1 δ1 σ H1 → Got C G (WW G1 δ1 σ) H1 v u →
      tDw C W io gb σ H1 fun w H2 => ∃ v' w', [v, w] = [v', w'] ∧ D.nx ((σ.set i (some v')).set j (some w')) H2 := fun G1 h1 hO1 hF1 F1 gv => by
    refine ⟨G1, h1, δ1, F1, ?_⟩
    have p2 : PostS C W G δ σ H D (((gb δ1).bind fun y δ2 => (.ok (u, y) δ2 : R Sl ((PyData × Bool) × (PyData × Bool)))).bind fun z δ1 => match setSlot G.io i (some (z.1.2, z.1.1)) δ1 with
      | some δ2 => match setSlot G.io j (some (z.2.2, z.2.1)) δ2 with
        | some δ3 => .ok .nx δ3
        | none => .stk
      | none => .stk) := p
    cases q2 : gb δ1 with
    | exc c xs d =>
      rw [q2] at p2
      intro cls dct H2 E2 X2 ev
      have wk : ∀ b, WW G d σ b → WW G1 d σ b := fun b z => z.imp (fun q => (hF1 b).mpr (.inl q)) id
      have E2' : ERel C G d σ H2 := by
        refine ⟨E2.len, fun k e h => ?_, fun k e h => ?_, E2.inj, fun b z => E2.fl b ((hF1 b).mpr (.inl z)), fun b z => E2.ol b (by rw [hO1]; exact z), E2.sz⟩
        · obtain ⟨t, r1, r2⟩ := E2.sh k e h
          exact ⟨t, r1, r2.weak wk⟩
        · obtain ⟨b, ys, es, r1, r2, r3, r4, r5, r6⟩ := E2.ow k e h
          exact ⟨b, ys, es, r1, r2, r3, r4.weak wk, fun z => r5 ((hF1 b).mpr (.inl z)), fun n => by rw [← hO1]; exact r6 (by rw [h1, ← hio]; exact n)⟩
      exact p2 cls dct σ H2 E2' (X1.trans X2) IoK.refl ⟨ev.1, ev.2.imp id fun ⟨dd, v, d, g1, g2, g3, g4⟩ => ⟨dd, v, d, g1, g2, g3, g4.weak wk⟩⟩
    | stk => rw [q2] at p2; exact (show False from p2).elim
    | ok t δ2 =>
    rw [q2] at p2
    have p2 : PostS C W G δ σ H D (match setSlot G.io i (some (u.2, u.1)) δ2 with
      | some δ2 => match setSlot G.io j (some (t.2, t.1)) δ2 with
        | some δ3 => .ok .nx δ3
        | none => .stk
      | none => .stk) := p2
    intro H2 E2 X2 w rw_ fw
    refine ⟨v, w, rfl, ?_⟩
    have set_ok : ∀ {k : Nat} {z : Option (Bool × PyData)} {δa δb : Sl}, setSlot G.io k z δa = some δb → k < δa.length ∧ k ∉ G.io ∧ δb = δa.set k z := fun {k z δa δb} q => by
      unfold setSlot at q
      split at q
      · cases q
      · rename_i hn
        rw [Bool.or_eq_true, not_or] at hn
        have hk := hn.2
        simp at hk
        exact ⟨hk, by simpa using hn.1, (Option.some.inj q).symm⟩
    cases s1 : setSlot G.io i (some (u.2, u.1)) δ2 with
    | none => rw [s1] at p2; exact (show False from p2).elim
    | some δ3 =>
    rw [s1] at p2
    dsimp only at p2
    cases s2 : setSlot G.io j (some (t.2, t.1)) δ3 with
    | none => rw [s2] at p2; exact (show False from p2).elim
    | some δ4 =>
    rw [s2] at p2
    obtain ⟨hi2, ni, rfl⟩ := set_ok s1
    obtain ⟨hj2, nj, rfl⟩ := set_ok s2
    rw [List.length_set] at hj2
    -- the ghost with both
    have fin : ∀ GG : Gh, GG.Old = G.Old → GG.io = G.io → (∀ b, GG.F b ↔ G.F b ∨ (u.2 = true ∧ v = .ref b) ∨ (t.2 = true ∧ w = .ref b)) → ERel C GG δ2 σ H2 → (∀ b, WW GG δ2 σ b → WW G1 δ1 σ b ∨ H1 b = none) → Got C G (WW GG δ2 σ) H2 w t → (∀ b, t.2 = true → w = .ref b → H1 b = none ∨ Own δ1 σ b) → D.nx ((σ.set i (some v)).set j (some w)) H2 := fun GG hO hI hF EE ww gw nw => by
      have gv2 : Got C G (WW GG δ2 σ) H2 v u := ⟨fun z => (gv.1 z).move X2.kp (fun _ z => .inr z) ww, fun z => by
        obtain ⟨a, xs, ds, e1, e2, n1, n2, e3, r⟩ := gv.2 z
        have na : ¬ Own δ1 σ a := F1.notOwn' ((hF1 a).mpr (.inr ⟨z, e1⟩))
        exact ⟨a, xs, ds, e1, e2, n1, n2, X2.kp a _ e3 fun q => absurd q na, r.move X2.kp (fun _ z => .inr z) ww⟩⟩
      obtain ⟨E3, X3, I3⟩ := store2 (i := i) (j := j) (x := u) (y := t) hij hi2 hj2 ni nj hF hO hI EE (X1.trans X2) gv2 gw (fun b z1 z2 e1 e2 => by
        rcases nw b z2 e2 with q | q
        · obtain ⟨a, xs, ds, g1, _, _, _, g2, _⟩ := gv.2 z1
          rw [e1] at g1; cases g1
          rw [q] at g2; cases g2
        · exact F1.notOwn' ((hF1 b).mpr (.inr ⟨z1, e1⟩)) q) (fun z b e => (fv z).2 b e) (fun z b e => X1.back (nw b z e))
      exact p2 _ _ E3 X3 I3
    by_cases ht : t.2 = true
    · obtain ⟨⟨a2, xs2, ds2, e1, e2, n1, n2, e3, r2, F2⟩, nw⟩ := fw ht
      refine fin (G1.plus a2) hO1 (h1.trans hio.symm) (fun b => ?_) F2 (fun b z => ?_) ⟨fun z => (by rw [ht] at z; cases z), fun _ => ⟨a2, xs2, ds2, e1, e2, by rw [← hO1]; exact n1, fun z => n2 ((hF1 a2).mpr (.inl z)), e3, r2⟩⟩ fun b _ e => nw b e
      · constructor
        · rintro (z | z)
          · exact ((hF1 b).mp z).imp id .inl
          · exact .inr (.inr ⟨ht, by rw [z]; exact e1⟩)
        · rintro (z | z | z)
          · exact .inl ((hF1 b).mpr (.inl z))
          · exact .inl ((hF1 b).mpr (.inr z))
          · exact .inr (by have q := z.2; rw [e1] at q; cases q; rfl)
      · rcases z with (z | z) | z
        · exact .inl (.inl z)
        · rw [z]
          exact (nw a2 e1).symm.imp .inr id
        · exact (X2.own b z).imp .inr id
    · have ht' : t.2 = false := by simpa using ht
      refine fin G1 hO1 (h1.trans hio.symm) (fun b => ?_) E2 (fun b z => z.elim (fun q => .inl (.inl q)) fun q => (X2.own b q).imp .inr id) ⟨fun _ => rw_, fun z => absurd z ht⟩ fun b z => absurd z ht
      constructor
      · intro z
        exact ((hF1 b).mp z).imp id .inl
      · rintro (z | z | z)
        · exact (hF1 b).mpr (.inl z)
        · exact (hF1 b).mpr (.inr z)
        · exact absurd z.1 ht
  by_cases hu : u.2 = true
  · obtain ⟨⟨a, xs, ds, e1, e2, n1, n2, e3, r, F1⟩, nn⟩ := fv hu
    refine go (G.plus a) hio rfl (fun b => ?_) F1 ⟨fun z => (by rw [hu] at z; cases z), fun _ => ⟨a, xs, ds, e1, e2, n1, n2, e3, r⟩⟩
    constructor
    · rintro (z | z)
      · exact .inl z
      · exact .inr ⟨hu, by rw [z]; exact e1⟩
    · rintro (z | z)
      · exact .inl z
      · exact .inr (by have q := z.2; rw [e1] at q; cases q; rfl)
  · refine go G hio rfl (fun b => ?_) E1 ⟨fun _ => rv, fun z => absurd z hu⟩
    constructor
    · exact fun z => .inl z
    · rintro (z | z)
      · exact z
      · exact absurd z.1 hu
end
end DL

namespace DL
open PySem PySem.Spec L2
open PyProof.Rows hiding St
def prI : D → Option (Int × Int)
  | .tuple [.int a, .int b] => some (a, b)
  | _ => none
def prsI : List D → Option (List (Int × Int))
  | [] => some []
  | d :: ds => match prI d, prsI ds with
    | some p, some ps => some (p :: ps)
    | _, _ => none
def pD (p : Int × Int) : D := .tuple [.int p.1, .int p.2]
def leP (p q : Int × Int) : Bool := decide (p.1 < q.1 ∨ (p.1 = q.1 ∧ p.2 ≤ q.2))
def dSortP : List D → Option (D × Bool)
  | [.list ds] => match prsI ds with
    | some ps => if ps.length ≤ LINE then some (.list ((ps.mergeSort leP).map pD), true) else none
    | none => none
  | _ => none
theorem prI_ok {d : D} {p : Int × Int} (h : prI d = some p) : d = pD p := by
  unfold prI at h
  split at h
  · cases h; rfl
  · cases h
theorem prsI_ok : ∀ {ds : List D} {ps : List (Int × Int)}, prsI ds = some ps → ds = ps.map pD
  | [], _, h => by cases h; rfl
  | d :: ds, ps, h => by
    unfold prsI at h
    split at h
    · rename_i p qs h1 h2
      cases h
      rw [prI_ok h1, prsI_ok h2]
      rfl
    · cases h
/-- a value with the pair for which it stands -/
abbrev VP := V × (Int × Int)
def encP (b : VP) : D := .tuple [.int b.2.1, .int b.2.2]
def rSortP (K : PySem.W.Frag) : List V → Hp → VK → Prop := fun vs H Q => ∃ (a : Addr) (bs : List VP), vs = [V.ref a] ∧ SqL K H a (bs.map (·.1)) ∧ (∀ b ∈ bs, Dp K H b.1 (encP b)) ∧
  ∀ p, H p = none → Q (.ref p) (upd H p (.lst ((bs.mergeSort (PySem.W.dataLe false encP)).map (·.1))))
theorem vals_each {bs : List VP} : ∀ {us : List Value}, Vals (bs.map (·.1)) us → PySem.W.EachIs (fun u (b : VP) => RelV b.1 u) us bs := by
  induction bs with
  | nil => intro us h; cases h; exact .nil
  | cons b bs ih =>
    intro us h
    cases h with
    | cons r t => exact .cons r (ih t)
theorem each_vals {bs : List VP} : ∀ {us : List Value}, PySem.W.EachIs (fun u (b : VP) => RelV b.1 u) us bs → Vals (bs.map (·.1)) us := by
  induction bs with
  | nil => intro us h; cases h; exact .nil
  | cons b bs ih =>
    intro us h
    cases h with
    | cons r t => exact .cons r (ih t)
theorem each_reads {X : Cx} {pins : List (Addr × Obj)} {σ : St} {H : Hp} {s : Shared} (I : Inv X pins σ H s) : ∀ {bs : List VP} {us : List Value}, PySem.W.EachIs (fun u (b : VP) => RelV b.1 u) us bs → (∀ b ∈ bs, Dp X.K H b.1 (encP b)) → PySem.W.EachIs (fun u (b : VP) => ∃ as, Reads s.heap u (encP b) as) us bs
  | _, _, .nil, _ => .nil
  | _, _, .cons r t, h => .cons (Dp.reads I _ _ _ (h _ (by simp)) r) (each_reads I t fun b hb => h b (by simp [hb]))
theorem cr_sortP {X : Cx} (hu : X.A.units + 66 < cLine) : CallR X (.builtin "sorted") (rSortP X.K) := by
  intro pins s σ H vs us Q I r h
  obtain ⟨a, bs, rfl, hs, hb, q⟩ := h
  obtain ⟨its, rv, hl, hz⟩ := I.list hs
  rw [Vals.ref1 r]
  have e := vals_each rv
  refine PySem.W.sorted_data (enc := encP) (bs := bs) hl.isList e (each_reads I e hb) (PySem.W.AllAlike.of fun b b' => ?_) (PySem.W.Sortable.tuples fun b => ⟨_, _, rfl⟩) (by rw [List.length_map] at hz; exact hz) (fun b _ => ?_) fun out ho eo => ?_
  · simp [encP, PySem.W.alike, PySem.W.alikeAll]
  · have : (encP b).depth ≤ 1 := by simp [encP, PyData.depth, PyData.depthAll]
    omega
  · obtain ⟨ep, he'⟩ := PyProof.Rows.sortedAll_at s.heap its out.toArray
    have hlen : ((bs.mergeSort (PySem.W.dataLe false encP)).map (·.1)).length ≤ sizeLine := by
      rw [List.length_map, List.length_mergeSort]
      rw [List.length_map] at hz
      exact hz
    exact ⟨.ref _, upd H (s.heap.objs.size + 1) (.lst ((bs.mergeSort (PySem.W.dataLe false encP)).map (·.1))), I.laid (t' := s.toks) (fun _ _ => PyProof.Rows.sortedAll_old) (Nat.le_succ _) ⟨hlen, out, ep, each_vals eo, he'⟩, rfl, q _ (I.hok.fresh (Nat.le_succ _))⟩
theorem zip_rep {C : Ct} {W : Addr → Prop} {H : Hp} : ∀ {ps : List (Int × Int)} {xs : List V}, RepL C W H xs (ps.map pD) → ∃ bs : List VP, bs.map (·.1) = xs ∧ bs.map (·.2) = ps ∧ ∀ b ∈ bs, Rep C W H b.1 (pD b.2)
  | [], _, h => by cases h; exact ⟨[], rfl, rfl, by simp⟩
  | p :: ps, _, h => by
    cases h with
    | cons r t =>
      obtain ⟨bs, h1, h2, h3⟩ := zip_rep t
      refine ⟨(_, p) :: bs, by rw [List.map_cons, h1], by rw [List.map_cons, h2], fun b hb => ?_⟩
      rcases List.mem_cons.mp hb with rfl | hb
      · exact r
      · exact h3 b hb
theorem rep_zip {C : Ct} {W : Addr → Prop} {H : Hp} : ∀ {bs : List VP}, (∀ b ∈ bs, Rep C W H b.1 (pD b.2)) → RepL C W H (bs.map (·.1)) ((bs.map (·.2)).map pD)
  | [], _ => .nil
  | b :: bs, h => .cons (h b (by simp)) (rep_zip fun x hx => h x (by simp [hx]))
theorem sort_snd (bs : List VP) : (bs.mergeSort (PySem.W.dataLe false encP)).map (·.2) = (bs.map (·.2)).mergeSort leP := by
  refine List.map_mergeSort fun a _ b _ => ?_
  show PySem.W.dataLe false (fun b : VP => .tuple [.int b.2.1, .int b.2.2]) a b = _
  rw [PySem.W.dataLe_ii (fun b : VP => b.2.1) (fun b : VP => b.2.2)]
  rfl
theorem shaped_pD (p : Int × Int) : SeqAt.shaped (pD p) = true := by simp [SeqAt.shaped, pD, PyData.canLay0, PyData.canLayAll0, PyData.depth, PyData.depthAll]
theorem cd_sortP {C : Ct} : CallD C (rSortP C.K) dSortP := fun G δ σ H xs ds p Q E r e q => by
  unfold dSortP at e
  split at e
  · rename_i es
    split at e
    · rename_i ps hp
      by_cases hl : ps.length ≤ LINE
      · rw [if_pos hl] at e
        cases e
        obtain ⟨v, rfl, rv⟩ := r.one_inv
        cases rv with
        | lst n h rl =>
          rw [prsI_ok hp] at rl
          obtain ⟨bs, b1, b2, b3⟩ := zip_rep rl
          subst b1
          subst b2
          refine ⟨_, bs, rfl, SqL.of h, fun b hb => (b3 b hb).dps (shaped_pD b.2), fun p hp => ?_⟩
          refine newl E q ?_ ?_ hp
          · rw [← sort_snd]
            exact rep_zip fun b hb => b3 b ((List.mergeSort_perm _ _).mem_iff.mp hb)
          · rw [List.length_map, List.length_mergeSort]
            rw [List.length_map] at hl
            exact hl
      · rw [if_neg hl] at e
        cases e
    · cases e
  · cases e
def dLtP : DOp
  | .tuple [.int a, .int b], .tuple [.int c, .int d] => some (.bool (decide (a < c ∨ (a = c ∧ b < d))), false)
  | _, _ => none
def rLtP (K : PySem.W.Frag) : R2 := fun x y H Q => ∃ (p q : Addr) (a b c d : Int), x = .ref p ∧ y = .ref q ∧ SqT K H p [.int a, .int b] ∧ SqT K H q [.int c, .int d] ∧ Q (.bl (decide (a < c ∨ (a = c ∧ b < d)))) H
theorem op_ltP {X : Cx} (hu' : X.A.units + 64 < cLine) : OpR X (compareOp .Lt) (rLtP X.K) := by
  intro pins s σ H x y v u Q I rx ry h
  have hu : X.A.units < cLine := by omega
  obtain ⟨p, q, a, b, c, d, rfl, rfl, ha, hb, z⟩ := h
  cases rx
  cases ry
  obtain ⟨its, r1, p1, _⟩ := I.tuple ha
  obtain ⟨its2, r2, p2, _⟩ := I.tuple hb
  have i1 : IntsAre its [a, b] := Vals.ints r1
  have i2 : IntsAre its2 [c, d] := Vals.ints r2
  have e1 : its.toArray.size = 2 := by rw [List.size_toArray]; exact i1.length
  have e2 : its2.toArray.size = 2 := by rw [List.size_toArray]; exact i2.length
  have at1 : ∀ j (h1 : j < its.toArray.size), ∃ t, its.toArray[j] = .int ([a, b].getD j 0) t := fun j h1 => PyProof.Rows.IntsAre.int_at i1 _ _ (by simp at h1; simp [h1])
  have at2 : ∀ j (h1 : j < its2.toArray.size), ∃ t, its2.toArray[j] = .int ([c, d].getD j 0) t := fun j h1 => PyProof.Rows.IntsAre.int_at i2 _ _ (by simp at h1; simp [h1])
  have R := Ob.RcOp.tuples_lt (A := X.A) (s := s) (e := fun j => decide ([a, b].getD j 0 = [c, d].getD j 0)) (r := fun j => decide ([a, b].getD j 0 < [c, d].getD j 0)) p1 p2 hu (fun j h1 h2 => by
    obtain ⟨t, et⟩ := at1 j h1
    obtain ⟨t', et'⟩ := at2 j h2
    rw [et, et']
    have z : ([a, b].getD j 0 == [c, d].getD j 0) = decide ([a, b].getD j 0 = [c, d].getD j 0) := by
      by_cases q : [a, b].getD j 0 = [c, d].getD j 0
      · rw [decide_eq_true q]; exact beq_iff_eq.mpr q
      · rw [decide_eq_false q]; exact beq_eq_false_iff_ne.mpr q
    rw [← z]
    exact SeqAt.EqAt.int_int _ _ _ _) (fun j h1 h2 _ => by
    obtain ⟨t, et⟩ := at1 j h1
    obtain ⟨t', et'⟩ := at2 j h2
    rw [et, et']
    exact Ob.RcOp.lt_int _ _ _ _)
  rw [e1, e2] at R
  have fin : Ob.lexAt (fun j => decide ([a, b].getD j 0 = [c, d].getD j 0)) (fun j => decide ([a, b].getD j 0 < [c, d].getD j 0)) (decide (2 < 2)) 0 (min 2 2) = decide (a < c ∨ (a = c ∧ b < d)) := by
    show (if decide (a = c) = true then (if decide (b = d) = true then decide (2 < 2) else decide (b < d)) else decide (a < c)) = _
    by_cases h1 : a = c
    · rw [if_pos (decide_eq_true h1)]
      by_cases h2 : b = d
      · rw [if_pos (decide_eq_true h2)]
        have : ¬ (a < c ∨ (a = c ∧ b < d)) := by omega
        rw [decide_eq_false this]
        rfl
      · rw [if_neg (by simp [h2])]
        rw [Bool.eq_iff_iff, decide_eq_true_iff, decide_eq_true_iff]
        omega
    · rw [if_neg (by simp [h1])]
      rw [Bool.eq_iff_iff, decide_eq_true_iff, decide_eq_true_iff]
      omega
  rw [fin] at R
  exact R X.prog X.w X.xe (EP X pins σ Q) ⟨.bl _, H, I, rfl, z⟩
theorem od_ltP {C : Ct} : OpD C (rLtP C.K) dLtP := fun G δ σ H x y v w p Q E rx ry e q => by
  unfold dLtP at e
  split at e
  · cases e
    cases rx with
    | tup h1 r1 =>
      cases ry with
      | tup h2 r2 =>
        obtain ⟨u1, u2, rfl, ra, rb⟩ := r1.two_inv
        obtain ⟨u3, u4, rfl, rc, rd⟩ := r2.two_inv
        cases ra; cases rb; cases rc; cases rd
        exact ⟨_, _, _, _, _, _, rfl, rfl, h1, h2, atom E q (.bl _)⟩
  · cases e
end DL

namespace DL
open PySem PySem.Spec L2
open PyProof.Rows hiding St
section
variable {C : Ct} {W : WX} {G : Gh} {X : Cx} {es : List Expr} {pos : Pos}
def gtUnl (gs : List D → Sl → Option Sl) : D → Bool → Sl → Option Sl
  | .list ds, _, δ => gs ds δ
  | _, _, _ => none
theorem pgd_unl {k : Nat} {gs : List D → Sl → Option Sl} {ts : List Nat} {n : Nat} (hc : X.calm = true) (h : PGs X es (tGs C G ts gs)) (hlen : ∀ ds δ δ', gs ds δ = some δ' → ds.length = n)
    (hn : (assignEach es X.env).length = n := by rfl) (hst : (assignEach es X.env).findIdx? (·.1) = none := by rfl) (hK : X.K = C.K := by rfl) : PG X (.Tuple es k pos) (tG C G ts (gtUnl gs)) := by
  have h' := pg_unl (pos := pos) (k := k) hc h hn hst
  rw [hK] at h'
  exact PG.imp h' fun v σ H Q ⟨δ0, H0, δ, d, fr, E, X0, r, f, k⟩ => by
    unfold gtUnl at k
    split at k
    · rename_i ds
      cases r with
      | lst nw hs rs =>
        cases q : gs ds δ with
        | none => rw [q] at k; exact k.elim
        | some δ' =>
          refine ⟨_, _, rfl, SqL.of hs, by rw [rs.length]; exact hlen ds δ δ' q, δ, ds, E, rs, ?_⟩
          rw [q] at k ⊢
          exact fun σ' H' E' X' o i => k σ' H' E' (X0.trans X') o i
    · exact k.elim
end
end DL

namespace DL
open PySem PySem.Spec L2
open PyProof.Rows hiding St
def minI : List Int → Option Int
  | [] => none
  | [x] => some x
  | x :: r => match minI r with
    | some y => some (if y < x then y else x)
    | none => some x
def maxI : List Int → Option Int
  | [] => none
  | [x] => some x
  | x :: r => match maxI r with
    | some y => some (if x < y then y else x)
    | none => some x
theorem minI_some (x : Int) : ∀ r, minI (x :: r) ≠ none
  | [] => by simp [minI]
  | y :: r => by
    unfold minI
    split <;> simp
theorem maxI_some (x : Int) : ∀ r, maxI (x :: r) ≠ none
  | [] => by simp [maxI]
  | y :: r => by
    unfold maxI
    split <;> simp
theorem minI_ok : ∀ {ns : List Int} {m : Int}, minI ns = some m → m ∈ ns ∧ ∀ y ∈ ns, m ≤ y
  | [x], m, h => by cases h; simp
  | x :: y :: r, m, h => by
    unfold minI at h
    cases q : minI (y :: r) with
    | none => exact absurd q (minI_some y r)
    | some z =>
      rw [q] at h
      obtain ⟨h1, h2⟩ := minI_ok q
      cases h
      by_cases c : z < x
      · rw [if_pos c]
        exact ⟨by simp [h1], fun w hw => by rcases List.mem_cons.mp hw with rfl | hw; omega; exact h2 w hw⟩
      · rw [if_neg c]
        exact ⟨by simp, fun w hw => by rcases List.mem_cons.mp hw with rfl | hw; omega; have := h2 w hw; omega⟩
theorem maxI_ok : ∀ {ns : List Int} {m : Int}, maxI ns = some m → m ∈ ns ∧ ∀ y ∈ ns, y ≤ m
  | [x], m, h => by cases h; simp
  | x :: y :: r, m, h => by
    unfold maxI at h
    cases q : maxI (y :: r) with
    | none => exact absurd q (maxI_some y r)
    | some z =>
      rw [q] at h
      obtain ⟨h1, h2⟩ := maxI_ok q
      cases h
      by_cases c : x < z
      · rw [if_pos c]
        exact ⟨by simp [h1], fun w hw => by rcases List.mem_cons.mp hw with rfl | hw; omega; exact h2 w hw⟩
      · rw [if_neg c]
        exact ⟨by simp, fun w hw => by rcases List.mem_cons.mp hw with rfl | hw; omega; have := h2 w hw; omega⟩
def intsI : List D → Option (List Int)
  | [] => some []
  | .int i :: ds => (intsI ds).map (i :: ·)
  | _ => none
theorem intsI_ok : ∀ {ds : List D} {ns : List Int}, intsI ds = some ns → ds = ns.map PyData.int
  | [], _, h => by cases h; rfl
  | d :: ds, ns, h => by
    unfold intsI at h
    split at h
    · rename_i h1; cases h1
    · rename_i i ds' h1
      cases h1
      obtain ⟨ms, h2, rfl⟩ := Option.map_eq_some_iff.mp h
      rw [intsI_ok h2]
      rfl
    · cases h
def dMinL : List D → Option (D × Bool)
  | [.list ds] => (intsI ds).bind fun ns => (minI ns).map fun m => (.int m, false)
  | _ => none
def dMaxL : List D → Option (D × Bool)
  | [.list ds] => (intsI ds).bind fun ns => (maxI ns).map fun m => (.int m, false)
  | _ => none
theorem rep_intsL {C : Ct} {W : Addr → Prop} {H : Hp} : ∀ {ns : List Int} {xs : List V}, RepL C W H xs (ns.map PyData.int) → xs = ns.map V.int
  | [], _, h => by cases h; rfl
  | n :: ns, _, h => by
    cases h with
    | cons r t =>
      cases r
      rw [rep_intsL t]
      rfl
theorem cd_minL {C : Ct} : CallD C (rMin C.K) dMinL := fun G δ σ H xs ds p Q E r e q => by
  unfold dMinL at e
  split at e
  · obtain ⟨ns, h1, h2⟩ := Option.bind_eq_some_iff.mp e
    obtain ⟨m, h3, rfl⟩ := Option.map_eq_some_iff.mp h2
    obtain ⟨v, rfl, rv⟩ := r.one_inv
    cases rv with
    | lst n h rl =>
      rw [intsI_ok h1] at rl
      obtain ⟨k1, k2⟩ := minI_ok h3
      refine ⟨_, ns, rfl, by rw [← rep_intsL rl]; exact SqL.of h, List.length_pos_of_mem k1, fun w w1 w2 => ?_⟩
      have : w = m := by have := k2 w w1; have := w2 m k1; omega
      rw [this]
      exact atom E q (.int _)
  · cases e
theorem cd_maxL {C : Ct} : CallD C (rMax C.K) dMaxL := fun G δ σ H xs ds p Q E r e q => by
  unfold dMaxL at e
  split at e
  · obtain ⟨ns, h1, h2⟩ := Option.bind_eq_some_iff.mp e
    obtain ⟨m, h3, rfl⟩ := Option.map_eq_some_iff.mp h2
    obtain ⟨v, rfl, rv⟩ := r.one_inv
    cases rv with
    | lst n h rl =>
      rw [intsI_ok h1] at rl
      obtain ⟨k1, k2⟩ := maxI_ok h3
      refine ⟨_, ns, rfl, by rw [← rep_intsL rl]; exact SqL.of h, List.length_pos_of_mem k1, fun w w1 w2 => ?_⟩
      have : w = m := by have := k2 w w1; have := w2 m k1; omega
      rw [this]
      exact atom E q (.int _)
  · cases e
def ltPp (p q : Int × Int) : Prop := p.1 < q.1 ∨ (p.1 = q.1 ∧ p.2 < q.2)
instance (p q : Int × Int) : Decidable (ltPp p q) := by unfold ltPp; infer_instance
def insP (p : Int × Int) : List (Int × Int) → List (Int × Int)
  | [] => [p]
  | q :: r => if p = q then q :: r else if ltPp p q then p :: q :: r else q :: insP p r
def sdP : List (Int × Int) → List (Int × Int)
  | [] => []
  | p :: r => insP p (sdP r)
theorem insP_mem (p z : Int × Int) : ∀ l, z ∈ insP p l ↔ z = p ∨ z ∈ l
  | [] => by simp [insP]
  | q :: r => by
    unfold insP
    split
    · rename_i h
      subst h
      simp
    · split
      · simp
      · rw [List.mem_cons, insP_mem p z r, List.mem_cons]
        constructor
        · rintro (h | h | h)
          · exact .inr (.inl h)
          · exact .inl h
          · exact .inr (.inr h)
        · rintro (h | h | h)
          · exact .inr (.inl h)
          · exact .inl h
          · exact .inr (.inr h)
theorem ltP_or {p q : Int × Int} (h1 : ¬ p = q) (h2 : ¬ ltPp p q) : ltPp q p := by
  unfold ltPp at *
  by_cases c : p.1 = q.1
  · have : ¬ p.2 = q.2 := fun z => h1 (Prod.ext c z)
    omega
  · omega
theorem ltP_tr {p q r : Int × Int} (h1 : ltPp p q) (h2 : ltPp q r) : ltPp p r := by unfold ltPp at *; omega
theorem insP_srt (p : Int × Int) : ∀ l, l.Pairwise ltPp → (insP p l).Pairwise ltPp
  | [], _ => List.pairwise_singleton _ _
  | q :: r, h => by
    obtain ⟨h1, h2⟩ := List.pairwise_cons.mp h
    unfold insP
    split
    · exact h
    · rename_i c1
      split
      · rename_i c2
        refine List.pairwise_cons.mpr ⟨fun z hz => ?_, h⟩
        rcases List.mem_cons.mp hz with rfl | hz
        · exact c2
        · exact ltP_tr c2 (h1 z hz)
      · rename_i c2
        refine List.pairwise_cons.mpr ⟨fun z hz => ?_, insP_srt p r h2⟩
        rcases (insP_mem p z r).mp hz with rfl | hz
        · exact ltP_or c1 c2
        · exact h1 z hz
theorem sdP_mem (z : Int × Int) : ∀ l, z ∈ sdP l ↔ z ∈ l
  | [] => by simp [sdP]
  | p :: r => by
    show z ∈ insP p (sdP r) ↔ _
    rw [insP_mem, sdP_mem z r, List.mem_cons]
theorem sdP_srt : ∀ l, (sdP l).Pairwise ltPp
  | [] => List.Pairwise.nil
  | p :: r => insP_srt p _ (sdP_srt r)
theorem srt_one : ∀ {l m : List (Int × Int)}, l.Pairwise ltPp → m.Pairwise ltPp → (∀ z, z ∈ l ↔ z ∈ m) → l = m
  | [], [], _, _, _ => rfl
  | [], q :: m, _, _, h => by have := (h q).mpr (by simp); cases this
  | p :: l, [], _, _, h => by have := (h p).mp (by simp); cases this
  | p :: l, q :: m, hl, hm, h => by
    obtain ⟨l1, l2⟩ := List.pairwise_cons.mp hl
    obtain ⟨m1, m2⟩ := List.pairwise_cons.mp hm
    have no : ∀ {a b : Int × Int}, ltPp a b → ltPp b a → False := fun {a b} x y => by unfold ltPp at *; omega
    have nr : ∀ {a : Int × Int}, ltPp a a → False := fun {a} x => no x x
    have e : p = q := by
      refine Classical.byContradiction fun ne => ?_
      have a := (h p).mp (by simp)
      have b := (h q).mpr (by simp)
      rcases List.mem_cons.mp a with a | a
      · exact ne a
      · rcases List.mem_cons.mp b with b | b
        · exact ne b.symm
        · exact no (m1 p a) (l1 q b)
    subst e
    rw [srt_one l2 m2 fun z => ?_]
    constructor
    · intro hz
      rcases List.mem_cons.mp ((h z).mp (by simp [hz])) with rfl | q
      · exact (nr (l1 _ hz)).elim
      · exact q
    · intro hz
      rcases List.mem_cons.mp ((h z).mpr (by simp [hz])) with rfl | q
      · exact (nr (m1 _ hz)).elim
      · exact q
def nnP (ps : List (Int × Int)) : Bool := ps.all fun p => decide (0 ≤ p.1) && decide (0 ≤ p.2)
def dSortSet : List D → Option (D × Bool)
  | [.list ds] => match prsI ds with
    | some ps => if ps.length < 64 ∧ nnP ps = true then some (.list ((sdP ps).map pD), true) else none
    | none => none
  | _ => none
def rSortSet (K : PySem.W.Frag) (P : Program) (w : World) : List V → Hp → VK → Prop := fun xs H Q => rSetOfT K P w xs H fun v H2 => rSortedT K P w [v] H2 Q
def iL (p : Int × Int) : List Int := [p.1, p.2]
theorem zip_ks {C : Ct} {W : Addr → Prop} {H : Hp} : ∀ {ps : List (Int × Int)} {xs : List V}, RepL C W H xs (ps.map pD) → ∃ ks : List (Addr × List Int), ks.map (fun p => V.ref p.1) = xs ∧ ks.map (·.2) = ps.map iL ∧ ∀ b ∈ ks, SqT C.K H b.1 (b.2.map V.int)
  | [], _, h => by cases h; exact ⟨[], rfl, rfl, by simp⟩
  | p :: ps, _, h => by
    cases h with
    | cons r t =>
      obtain ⟨ks, h1, h2, h3⟩ := zip_ks t
      cases r with
      | tup hs rs =>
        obtain ⟨u, w, rfl, ra, rb⟩ := rs.two_inv
        cases ra; cases rb
        refine ⟨(_, iL p) :: ks, by rw [List.map_cons, h1], by rw [List.map_cons, h2]; rfl, fun b hb => ?_⟩
        rcases List.mem_cons.mp hb with rfl | hb
        · exact hs
        · exact h3 b hb
theorem ks_rep {C : Ct} {W : Addr → Prop} {H : Hp} : ∀ {ks : List (Addr × List Int)} {qs : List (Int × Int)}, ks.map (·.2) = qs.map iL → (∀ b ∈ ks, SqT C.K H b.1 (b.2.map V.int)) → RepL C W H (ks.map fun p => V.ref p.1) (qs.map pD)
  | [], [], _, _ => .nil
  | [], q :: qs, h, _ => by cases h
  | k :: ks, [], h, _ => by cases h
  | k :: ks, q :: qs, h, hs => by
    rw [List.map_cons, List.map_cons] at h
    injection h with h1 h2
    refine .cons ?_ (ks_rep h2 fun b hb => hs b (by simp [hb]))
    have a := hs k (by simp)
    rw [h1] at a
    exact .tup a (.cons (.int _) (.cons (.int _) .nil))
def topI : List (Int × Int) → Int
  | [] => 1
  | p :: r => p.1.natAbs + p.2.natAbs + topI r
theorem topI_ok : ∀ {ps : List (Int × Int)} {p : Int × Int}, p ∈ ps → p.1 < topI ps ∧ p.2 < topI ps ∧ 1 ≤ topI ps
  | q :: r, p, h => by
    have pos : ∀ l, 1 ≤ topI l := fun l => by
      induction l with
      | nil => exact Int.le_refl _
      | cons a l ih => unfold topI; omega
    have := pos r
    rcases List.mem_cons.mp h with rfl | h
    · unfold topI; omega
    · have := topI_ok h
      unfold topI
      omega
theorem code2 (B x y : Int) : TS.code B [x, y] = x * B + y := by
  show x * B ^ 1 + (y * B ^ 0 + 0) = _
  rw [Int.pow_succ, Int.pow_zero, Int.one_mul, Int.mul_one, Int.add_zero]
theorem code_lt {B x y x' y' : Int} (h : TS.code B [x, y] ≤ TS.code B [x', y']) (b2 : y < B) (c1 : 0 ≤ y) (b4 : y' < B) (c2 : 0 ≤ y') : x < x' ∨ (x = x' ∧ y ≤ y') := by
  rw [code2, code2] at h
  by_cases q : x < x'
  · exact .inl q
  · by_cases e : x = x'
    · subst e
      exact .inr ⟨rfl, by omega⟩
    · have : (x' + 1) * B ≤ x * B := Int.mul_le_mul_of_nonneg_right (by omega) (by omega)
      rw [Int.add_mul, Int.one_mul] at this
      omega
theorem cd_sortSet {C : Ct} {P : Program} {w : World} : CallD C (rSortSet C.K P w) dSortSet := fun G δ σ H xs ds p Q E r e q => by
  unfold dSortSet at e
  split at e
  · rename_i es
    split at e
    · rename_i ps hp
      by_cases hc : ps.length < 64 ∧ nnP ps = true
      · rw [if_pos hc] at e
        cases e
        obtain ⟨v, rfl, rv⟩ := r.one_inv
        cases rv with
        | lst n h rl =>
          rw [prsI_ok hp] at rl
          obtain ⟨ks, k1, k2, k3⟩ := zip_ks rl
          have nn : ∀ p ∈ ps, 0 ≤ p.1 ∧ 0 ≤ p.2 := fun p hp => by
            have := List.all_eq_true.mp hc.2 p hp
            simpa using this
          have kp : ∀ k ∈ ks, ∃ p ∈ ps, k.2 = iL p := fun k hk => by
            have : k.2 ∈ ps.map iL := by rw [← k2]; exact List.mem_map.mpr ⟨k, hk, rfl⟩
            obtain ⟨p, h1, h2⟩ := List.mem_map.mp this
            exact ⟨p, h1, h2.symm⟩
          have kl : ks.length = ps.length := by
            have := congrArg List.length k2
            rwa [List.length_map, List.length_map] at this
          refine ⟨_, ks, rfl, by rw [k1]; exact SqL.of h, k3, by rw [kl]; exact hc.1, fun a L ha hL1 hL2 => ?_⟩
          have x1 : Ext δ σ H δ σ (upd H a (SetTO P w a L)) := Ext.grow ha
          have E1 : ERel C G δ σ (upd H a (SetTO P w a L)) := (E.grow ha fun ys e => by cases e).less
          have k3' : ∀ b ∈ ks, SqT C.K (upd H a (SetTO P w a L)) b.1 (b.2.map V.int) := fun b hb => by
            obtain ⟨p, _, e⟩ := kp b hb
            have r0 : Rep C (WW G δ σ) H (V.ref b.1) (pD p) := .tup (xs := b.2.map V.int) (k3 b hb) (by rw [e]; exact .cons (.int _) (.cons (.int _) .nil))
            have r1 : Rep C (WW G δ σ) (upd H a (SetTO P w a L)) (V.ref b.1) (.tuple [.int p.1, .int p.2]) := x1.rep r0
            rw [e]
            generalize b.1 = ba at r1
            cases r1 with
            | tup hs rs =>
              obtain ⟨u, w, rfl, ra, rb⟩ := rs.two_inv
              cases ra; cases rb
              exact hs
          refine ⟨a, L, 2, topI ps, rfl, upd_same, fun b hb => k3' b (hL1 b hb), by omega, fun b hb => ?_, fun L' p pm nd few pw hp => ?_⟩
          · obtain ⟨z, hz, e⟩ := kp b (hL1 b hb)
            have := topI_ok hz
            have := nn z hz
            rw [e]
            refine ⟨rfl, fun m hm => ?_⟩
            simp only [iL, List.mem_cons, List.not_mem_nil, or_false] at hm
            rcases hm with rfl | rfl <;> omega
          · -- the pairs of L'
            have lp : ∃ qs : List (Int × Int), L'.map (·.2) = qs.map iL ∧ ∀ z ∈ qs, z ∈ ps := by
              have : ∀ (M : List (Addr × List Int)), (∀ b ∈ M, b ∈ L) → ∃ qs : List (Int × Int), M.map (·.2) = qs.map iL ∧ ∀ z ∈ qs, z ∈ ps := by
                intro M
                induction M with
                | nil => exact fun _ => ⟨[], rfl, by simp⟩
                | cons b M ih =>
                  intro hM
                  obtain ⟨qs, h1, h2⟩ := ih fun c hc => hM c (by simp [hc])
                  obtain ⟨z, hz, e⟩ := kp b (hL1 b (hM b (by simp)))
                  refine ⟨z :: qs, by rw [List.map_cons, List.map_cons, h1, e], fun y hy => ?_⟩
                  rcases List.mem_cons.mp hy with rfl | hy
                  · exact hz
                  · exact h2 y hy
              exact this L' fun b hb => pm.mem_iff.mp hb
            obtain ⟨qs, q1, q2⟩ := lp
            have inj : ∀ {y z : Int × Int}, iL y = iL z → y = z := fun {y z} h => by
              unfold iL at h
              injection h with h1 h2
              injection h2 with h2 _
              exact Prod.ext h1 h2
            have eq : qs = sdP ps := by
              refine srt_one ?_ (sdP_srt ps) fun z => ?_
              · have nd' : (qs.map iL).Nodup := q1 ▸ nd
                have pw' : (qs.map iL).Pairwise (fun x y => TS.code (topI ps) x ≤ TS.code (topI ps) y) := by
                  rw [← q1]
                  exact List.pairwise_map.mpr pw
                have both := (List.pairwise_map.mp (List.nodup_iff_pairwise_ne.mp nd')).and (List.pairwise_map.mp pw')
                refine List.Pairwise.imp_of_mem (fun {x y} hx hy z => ?_) both
                have a1 := topI_ok (q2 x hx)
                have a2 := topI_ok (q2 y hy)
                have a3 := nn x (q2 x hx)
                have a4 := nn y (q2 y hy)
                rcases code_lt z.2 a1.2.1 a3.2 a2.2.1 a4.2 with c | c
                · exact .inl c
                · refine .inr ⟨c.1, ?_⟩
                  have : ¬ x.2 = y.2 := fun w => z.1 (congrArg iL (Prod.ext c.1 w))
                  omega
              · rw [sdP_mem]
                refine ⟨q2 z, fun hz => ?_⟩
                have m1 : iL z ∈ ks.map (·.2) := by rw [k2]; exact List.mem_map.mpr ⟨z, hz, rfl⟩
                obtain ⟨b, hb, e⟩ := List.mem_map.mp m1
                have m2 := hL2 b hb
                obtain ⟨c, hc', e2⟩ := List.mem_map.mp m2
                have m3 : c.2 ∈ L'.map (·.2) := List.mem_map.mpr ⟨c, pm.mem_iff.mpr hc', rfl⟩
                rw [q1, e2, e] at m3
                obtain ⟨y, hy, e3⟩ := List.mem_map.mp m3
                rw [← inj e3]
                exact hy
            have pa : ¬ p = a := fun z => by rw [z, upd_same] at hp; cases hp
            have hp0 : H p = none := by rwa [upd_ne pa] at hp
            refine newl E1 (fun u H' E' X' r' f' => q u H' E' (x1.trans X') r' fun z => ?_) ?_ ?_ hp
            · obtain ⟨f1, f2⟩ := f' z
              exact ⟨f1, fun b hb => (f2 b hb).imp (fun z => by
                by_cases ba : b = a
                · rw [ba, upd_same] at z; cases z
                · rwa [upd_ne ba] at z) id⟩
            · rw [← eq]
              exact ks_rep q1 fun b hb => k3' b (hL1 b (pm.mem_iff.mp hb))
            · rw [List.length_map, sizeLine_eq]
              omega
      · rw [if_neg hc] at e
        cases e
    · cases e
  · cases e
theorem pd_sortSet {C : Ct} {W : WX} {G : Gh} {X : Cx} {e : Expr} {gr : Sl → R Sl (List D)} {p p2 pos pos2 : Pos} (hc : X.calm = true) (hu : X.A.units + 64 < cLine) (hg : Gl X "sorted") (hm : X.mg "sorted" = none) (hg2 : Gl X "set") (hm2 : X.mg "set" = none) (ha : PA X [e] (tA C W G gr)) (hK : X.K = C.K)
    (hs : starEach [e] X.env = (false, eval e X.env) :: starEach [] X.env := by rfl)
    (hs2 : starEach [.Call (.Name "set" p2) [e] [] pos2] X.env = (false, eval (.Call (.Name "set" p2) [e] [] pos2) X.env) :: starEach [] X.env := by rfl) :
    PE X (.Call (.Name "sorted" p) [.Call (.Name "set" p2) [e] [] pos2] [] pos) (tD C W G (gCall dSortSet gr)) := by
  have h1 := pe_callTy (p := p2) (pos := pos2) (cr_setOfT hc hu) hg2 hm2 boot_set ha (by decide) (by decide) hs rfl
  have h2 := pe_callB (p := p) (pos := pos) (cr_sortedT hc) hg hm boot_sorted (pa_cons h1 pa_nil hs2) (by decide) (by decide) hs2 rfl
  refine PE.imp h2 fun σ H Q h => ?_
  have := tD_call (C := C) (W := W) (G := G) (r := rSortSet X.K X.prog X.w) (hK ▸ cd_sortSet) σ H Q h
  exact this
end DL

namespace DL
open PySem PySem.Spec L2
open PyProof.Rows hiding St
/-- the list at a as it stands at each turn, each item with its number from c on -/
def IteC (K : PySem.W.Frag) (a : Addr) (c : Int) : It :=
  ⟨fun i H => ∃ (zs : List V) (y : V), SqL K H a zs ∧ zs[i]? = some y,
   fun i H v H' => ∃ T y, v = .ref T ∧ H T = none ∧ H' = upd H T (.tup [.int (c + (i : Nat)), y]) ∧ ∀ zs, SqL K H a zs → zs[i]? = some y,
   fun i H => ∃ zs : List V, SqL K H a zs ∧ zs.length ≤ i⟩
theorem iter_apart {h : Heap} {it a : Addr} {i : Nat} {items : Array Value} (h1 : h.IsListIter it a i) (h2 : h.IsList a items) : a ≠ it := fun e => by
  subst e
  obtain ⟨o, ho, hc, hd⟩ := h1
  obtain ⟨o2, ho2, hc2, n, hd2⟩ := h2
  rw [ho] at ho2
  cases ho2
  rw [hd] at hd2
  cases hd2
theorem next_endC {P : Program} {w : World} {A : Around} {E : Value → Shared → Prop} {s : Shared} {e it a : Addr} {i : Nat} {c : Int} {zs : Array Value} {old : Value} {Q : Option Value → Shared → Prop} (h0 : A.handled = none)
    (h1 : IsEnum s.heap e it c old) (h2 : s.heap.IsListIter it a i) (h3 : s.heap.IsList a zs) (h4 : zs[i]? = none)
    (q : ∀ h', Heap.ExtBut it s.heap h' → Q none { s with heap := h' }) : wpAny (model P w) A (pyNext (.ref e)) Q E s := by
  have ty : s.TypeIs (.ref e) "enumerate" := ⟨_, h1, rfl⟩
  unfold pyNext
  refine wpAny_bind (wpAny_attempt (wpAny_callSpecial?_slot (name := Str.ofString "__next__") ty F.slot_enumerate_next (wpAny_call_entry F.slot_enumerate_next ty F.entry_enumerate_next ?_ (F.args_enumerate_next_1 _))))
  show wpAny _ _ (field (.ref e) 2 >>= _) _ _ s
  refine wpAny_bind (wpAny_field h1 rfl (x := .ref it) rfl (wpAny_bind (wpAny_nextOf_list_end h0 h2 h3 h4 fun h' x g1 ⟨o, g2, g3⟩ => ?_)))
  exact wpAny_bind (wpAny_isInstance (T := "StopIteration") (b := true) ⟨o, g2, g3⟩ isSubtype_stop (wpAny_pure (q _ g1)))
theorem turn_enumC {P : Program} {w : World} {K : PySem.W.Frag} {elts : List Expr} {kk : Nat} {tpos : Pos} (c : Int) (a e it : Addr) :
    Turn P w K (.Tuple elts kk tpos) (IteC K a c) [e, it] e (fun i h => (∃ old, IsEnum h e it (c + ((i : Nat) : Int)) old) ∧ h.IsListIter it a i ∧ e ≠ it) where
  mem := List.mem_cons_self
  obj := fun i h ⟨⟨old, he⟩, ⟨o, ho, hc, hd⟩, _⟩ b hb => by
    rcases List.mem_cons.mp hb with z | hb
    · rw [z]
      exact ⟨_, he, fun v q => nomatch q⟩
    · rw [List.mem_singleton.mp hb]
      exact ⟨o, ho, fun v q => by rw [hd] at q; cases q⟩
  keep := fun i h h' ⟨⟨old, he⟩, hi, hne⟩ k => ⟨⟨old, k e List.mem_cons_self _ he⟩, hi.at fun o q => k it (by simp) o q, hne⟩
  item := by
    intro X hP hw hK hc i pins s σ H E I hf ⟨⟨old, he⟩, hit, hne⟩ ⟨zs, y, hq, hx⟩
    subst hP hw hK
    obtain ⟨its, rv, p, hz⟩ := I.list hq
    obtain ⟨u, hu, ru⟩ := rv.get hx
    have hnl : a ≠ it := iter_apart hit p.isList
    have hea : e ≠ a := fun z => by
      subst z
      obtain ⟨o2, ho2, hc2, n, hd2⟩ := p.isList
      rw [he] at ho2
      cases ho2
      cases hd2
    have hlt : i < its.toArray.size := by
      have := (List.getElem?_eq_some_iff.mp hu).1
      simpa using this
    have z1 : e < s.heap.objs.size := Heap.lt_size he
    have z2 : it < s.heap.objs.size := by obtain ⟨_, q, _⟩ := hit; exact Heap.lt_size q
    have hh : X.A.in1.handled = none := I.ok.hd hc
    refine wpAny_pyNext_enum_itemC (Draws.list hh it a hnl its.toArray) he ⟨hit, p.isList⟩ hlt hne (by simp [hne, hea]) fun x h' tk hxi ho hit' hT hsz hk => ?_
    have ex : x = u := by
      have q : its.toArray[i]? = some u := by simpa using hu
      rw [q] at hxi
      exact (Option.some.inj hxi).symm
    subst ex
    refine ⟨_, rfl, wpAny_letOwnedTupleGo_enum (s := { s with heap := h', toks := tk + 1 }) ho fun h2 he2 sb => ?_⟩
    have hT2 := (sb.2 _ (Nat.ne_of_gt z1)).trans hT
    have new : ObjOk X.prog X.w (upd H s.heap.objs.size (.tup [.int (c + (i : Nat)), y])) h2 s.heap.objs.size (.tup [.int (c + (i : Nat)), y]) :=
      ⟨(by decide : 2 ≤ sizeLine), [_, _], .cons ⟨_, rfl⟩ (.cons ru .nil), ⟨_, hT2, rfl, _, rfl⟩⟩
    have I1 : Inv X pins σ (upd H s.heap.objs.size (.tup [.int (c + (i : Nat)), y])) { s with heap := h2, toks := tk + 1 } :=
      I.turnedNew (ch := [e, it]) (fun b ob hb q => (sb.2 b fun z => hb (by rw [z]; exact List.mem_cons_self)).trans (hk b ob (fun z => hb (by rw [z]; exact List.mem_cons_self)) (fun z => hb (by simp [z])) q)) hf (Nat.le_refl _) new
    refine ⟨.ref s.heap.objs.size, _, I1, rfl, ⟨_, y, rfl, I.hok.fresh (Nat.le_refl _), rfl, fun ys hy => by rw [I.list_inj hy hq]; exact hx⟩, ⟨⟨x, ?_⟩, hit'.1.at fun o q => (sb.2 it (Ne.symm hne)).trans q, hne⟩, fun b hb => ?_⟩
    · have e1 : c + ((i + 1 : Nat) : Int) = c + (i : Int) + 1 := by omega
      rw [e1]
      exact he2
    · have hb' : b < s.heap.objs.size := by
        rcases List.mem_cons.mp hb with z | z
        · rw [z]; exact z1
        · rw [List.mem_singleton.mp z]; exact z2
      rw [upd_ne (Nat.ne_of_lt hb')]
      exact (hf b hb).1
  done := by
    intro X hP hw hK hc i pins s σ H E I hf ⟨⟨old, he⟩, hit, hne⟩ ⟨zs, hq, hx⟩
    subst hP hw hK
    obtain ⟨its, rv, p, hz⟩ := I.list hq
    obtain ⟨f0, f1, f2, f3, f4, f5⟩ := hf it (by simp)
    refine next_endC (I.ok.hd hc) he hit p.isList (by have hl := rv.length; simp; omega) fun h2 eb => ⟨rfl, I.turned (t' := s.toks) (fun b o hb q => eb b o hb q) f0 f1 f3 f4 f5⟩
  self := fun A i s Q E ⟨⟨_, he⟩, _⟩ h => wpAny_pyIter_enum he h
def iEnumC (K : PySem.W.Frag) (ta : TA) : TI := fun σ H R => ta σ H fun vs H1 => ∃ (a : Addr) (zs : List V) (c : Int), vs = [.ref a, .int c] ∧ -(2 ^ 63) ≤ c ∧ c < 2 ^ 63 ∧ SqL K H1 a zs ∧ R (IteC K a c) H1
theorem pi_enumC {X : Cx} {e f : Expr} {ta : TA} {p pos tpos : Pos} {elts : List Expr} {kk : Nat} (hg : Gl X "enumerate") (hm : X.mg "enumerate" = none) (ha : PA X [e, f] ta) (hs : starEach [e, f] X.env = (false, eval e X.env) :: starEach [f] X.env := by rfl) (hpl : (backTo pos (starEach [f] X.env)).any (·.1) = false := by rfl) :
    PI X (.Tuple elts kk tpos) (.Call (.Name "enumerate" p) [e, f] [] pos) (iEnumC X.K ta) := by
  refine ⟨fun pins s σ H R I h => ?_⟩
  refine Call_ (ld_blt I hg hm boot_enumerate (PyProof.Rows.callWith_type1 (rest := [f]) (thn (ha.run pos pins s σ H _ I h) fun us s1 ⟨vs, H1, I1, r1, q1⟩ => ?_) hs hpl))
  obtain ⟨a, zs, c, ex, c0, c1, hq, q⟩ := q1
  subst ex
  obtain ⟨v, u, rfl, rv1, ru1⟩ := r1.two
  cases rv1
  obtain ⟨t, rfl⟩ := ru1
  obtain ⟨its, rv, p', hz⟩ := I1.list hq
  refine enum_begins (begins_list a its.toArray) p'.isList c0 c1 fun h' he hit hsz hk => wpAny_pyIter_enum he ?_
  have I2 : Inv X pins σ H1 { s1 with heap := h' } := I1.kept (t' := s1.toks) hk
  refine ⟨s1.heap.objs.size + 1, [s1.heap.objs.size + 1, s1.heap.objs.size], _, _, H1, rfl, I2, turn_enumC c a (s1.heap.objs.size + 1) s1.heap.objs.size, ⟨⟨.none, ?_⟩, ⟨_, hit, rfl, rfl⟩, Nat.succ_ne_self _⟩, fun b hb => ?_, q⟩
  · rw [show c + ((0 : Nat) : Int) = c by omega]
    exact he
  · have le : s1.heap.objs.size ≤ b := by
      rcases List.mem_cons.mp hb with z | z
      · rw [z]; exact Nat.le_add_right _ _
      · rw [List.mem_singleton.mp z]; exact Nat.le_refl _
    exact I1.fpOk le (I1.hok.fresh le)
section
variable {C : Ct} {W : WX} {G : Gh} {X : Cx} {a b : Expr} {ga gb : Sl → EV} {pos : Pos}
def enumC : Int → List D → List D
  | _, [] => []
  | c, d :: ds => .tuple [.int c, d] :: enumC (c + 1) ds
theorem enumC_len : ∀ {c : Int} {ds : List D}, (enumC c ds).length = ds.length
  | _, [] => rfl
  | c, d :: ds => by rw [enumC, List.length_cons, List.length_cons, enumC_len]
theorem enumC_get : ∀ {c : Int} {ds : List D} {i : Nat}, (enumC c ds)[i]? = (ds[i]?).map fun d => .tuple [.int (c + (i : Nat)), d]
  | _, [], i => by simp [enumC]
  | c, d :: ds, 0 => by simp [enumC]
  | c, d :: ds, i + 1 => by
    rw [enumC, List.getElem?_cons_succ, List.getElem?_cons_succ, enumC_get]
    rw [show c + 1 + (i : Int) = c + ((i + 1 : Nat) : Int) by omega]
theorem src_enumC {c : Int} {a : Addr} {zs : List V} {ds : List D} : SrcOk C (IteC C.K a c) (enumC c ds) (LstAt C a zs ds) where
  mv := fun W W' O H H' p k ho hw => p.mv k ho hw
  go := fun W H i d p e => by
    rw [enumC_get] at e
    cases q : ds[i]? with
    | none =>
      rw [q] at e
      cases e
    | some d0 =>
      rw [q] at e
      have e2 := Option.some.inj e
      subst e2
      obtain ⟨v, g1, g2⟩ := p.2.get q
      refine ⟨⟨zs, v, p.sq, g1⟩, fun x H' ⟨T, y, hx, hT, hH, hy⟩ => ?_⟩
      subst hx
      subst hH
      have z := hy zs p.sq
      rw [g1] at z
      cases z
      exact ⟨.inr ⟨T, _, hT, rfl⟩, .tup (.inl (.inl upd_same)) (.cons (.int _) (.cons (g2.move (O := fun _ => False) (fun b o h _ => by rw [upd_ne (ne_of_none h hT)]; exact h) (fun _ z => z.elim) fun _ z => .inl z) .nil))⟩
  stop := fun W H i p h => ⟨zs, p.sq, by rw [p.2.length, ← enumC_len (c := c)]; exact h⟩
def giEnumC (ga gb : Sl → EV) : Sl → R Sl (List D) := fun δ => (ga δ).bind fun x δ1 => (gb δ1).bind fun y δ2 => match lstOf x.1, y.1 with
  | some ds, .int c => if -1000000 ≤ c ∧ c ≤ 1000000 then .ok (enumC c ds) δ2 else .stk
  | _, _ => .stk
theorem pid_enumC {p tpos : Pos} {elts : List Expr} {kk : Nat} (hg : Gl X "enumerate") (hm : X.mg "enumerate" = none) (ha : PE X a (tD C W G ga)) (hb : PE X b (tD C W G gb)) (hs : starEach [a, b] X.env = (false, eval a X.env) :: starEach [b] X.env := by rfl) (hs2 : starEach [b] X.env = [(false, eval b X.env)] := by rfl)
    (hpl : (backTo pos (starEach [b] X.env)).any (·.1) = false := by rfl) (hK : X.K = C.K := by rfl) : PI X (.Tuple elts kk tpos) (.Call (.Name "enumerate" p) [a, b] [] pos) (tI C W G (giEnumC ga gb)) := by
  have h := pi_enumC (pos := pos) (p := p) (tpos := tpos) (elts := elts) (kk := kk) hg hm (pa_cons ha (pa_cons hb pa_nil hs2) hs) hs hpl
  rw [hK] at h
  exact PI.imp h fun σ H R ⟨δ, E, p⟩ => ⟨δ, E, (Post.bind p).imp fun x δ1 H1 E1 X1 p1 v rv _ => ⟨δ1, E1, (Post.bind p1).imp fun y δ2 H2 E2 X2 p2 w rw _ => by
    split at p2
    · rename_i ds c hd hy
      split at p2
      · rename_i hc
        obtain ⟨l, xs, rfl, la⟩ := lst_at (X2.rep rv) hd
        have rw' : Rep C (WW G δ2 σ) H2 w (.int c) := hy ▸ rw
        cases rw'
        exact ⟨l, xs, c, rfl, by omega, by omega, la.sq, p2 H2 E2 Ext.refl _ _ src_enumC la⟩
      · exact p2.elim
    · exact p2.elim⟩⟩
def gCountV (i : Nat) (gb : Sl → EV) : Sl → EV := fun δ => match slotD i δ with
  | some (.list _) => (gb δ).bind fun y δ1 => match slotD i δ1, y.1 with
    | some (.list ds), .int k => match intsD ds with
      | some ns => .ok (.int (ns.count k : Nat), false) δ1
      | none => .stk
    | _, _ => .stk
  | _ => .stk
theorem pd_countV {i : Nat} {x : Str} {apos pos' : Pos} (hb : PE X b (tD C W G gb)) (hp : PE X (.Call (.Attribute (.Name x pos') "count" apos) [b] [] pos) (tBM C.K "list" (rCntI C.K) (tVar i) (tCons (tD C W G gb) tNil))) :
    PE X (.Call (.Attribute (.Name x pos') "count" apos) [b] [] pos) (tD C W G (gCountV i gb)) := PE.imp hp fun σ H Q ⟨δ, E, p⟩ => by
  unfold gCountV at p
  split at p
  · rename_i ds0 h0
    obtain ⟨v, hv, rb0⟩ := E.slot h0
    obtain ⟨a, xs0, rfl, g0, _⟩ := rb0.lst
    refine ⟨_, hv, .inl ⟨rfl, _, SqL.of g0⟩, δ, E, (Post.bind p).imp fun y δ1 H1 E1 X1 p1 w rw _ => ?_⟩
    split at p1
    · rename_i ds k h1 hy
      have rb := slot_later E1 hv h1
      split at p1
      · rename_i ns hn
        have rw' : Rep C (WW G δ1 σ) H1 w (.int k) := hy ▸ rw
        cases rw'
        obtain ⟨a1, xs, e1, g1, rl⟩ := rb.lst
        cases e1
        rw [ints_of rl hn] at g1
        exact ⟨a, ns, k, rfl, rfl, SqL.of g1, now E1 p1 _ (.int _) fun z => nomatch z⟩
      · exact (show False from p1).elim
    · exact (show False from p1).elim
  · exact (show False from p).elim
end
end DL

namespace DL
open PySem PySem.Spec L2
open PyProof.Rows hiding St
/-- a set as it is made -/
abbrev nS (w : World) : Obj := { cls := .type "set", dict := none, data := .set #[] 0 (.fresh 0 0 (!w.params.followText "set-order")) }
section
variable {P : Program} {w : World} {A : Around} {E : Value → Shared → Prop} {s : Shared}
/-- what set.__init__ does with a list of ints -/
theorem init_ints {l : Addr} {ys : Array Value} (zs : List Int) (h0 : A.handled = none) (hl : s.heap.IsList l ys) (hz : IntsAre ys.toList zs) (hb : zs.length + 1 < scanBound) :
    wpAny (model P w) A (Builtin.«set.__init__» ⟨[.ref s.heap.objs.size, .ref l], []⟩) (fun f s2 => f = .done (.ret .none) ∧ ∃ h' tk c, s2 = { s with heap := h', toks := tk } ∧ SetR w h' s.heap.objs.size (fun j => decide (j ∈ zs)) c ∧
      (∀ b o, s.heap.get? b = some o → h'.get? b = some o)) E { s with heap := s.heap.push (nS w) } := by
  have len : ys.size = zs.length := (Array.length_toList (xs := ys)).symm.trans (IntsAre.length hz)
  have at0 : (s.heap.push (nS w)).get? s.heap.objs.size = some (nS w) := Heap.get?_push_size _ rfl
  have l1 : (s.heap.push (nS w)).IsList l ys := hl.push _
  obtain ⟨⟨oc, od, oo, os⟩, g1, g2, m, g3⟩ := l1
  simp only at g2 g3
  subst g2
  subst g3
  have l1 : (s.heap.push (nS w)).IsList l ys := hl.push _
  have ll : l < s.heap.objs.size := by
    obtain ⟨o, g, _⟩ := hl
    exact Heap.lt_size g
  have f1 := F.sub_list_set
  have f2 := F.sub_list_frozenset
  have f3 : (Value.type "list" == Value.type "dict") = false := by decide
  unfold Builtin.«set.__init__» noKeywords Builtin.Frozenset.updateFrom
  generalize hit : pyIter = it
  wp_walk
  subst hit
  refine wpAny_pyIter_list l1 (wpAny_bind (wpAny_runValue ?_))
  have sz : (s.heap.push (nS w)).objs.size = s.heap.objs.size + 1 := Heap.size_push ..
  have nl : l ≠ (s.heap.push (nS w)).objs.size := by rw [sz]; exact Nat.ne_of_lt (Nat.lt_succ_of_lt ll)
  have ns : s.heap.objs.size ∉ [(s.heap.push (nS w)).objs.size, l] := fun z => by
    rw [sz] at z
    rcases List.mem_cons.mp z with z | z
    · exact absurd z (Nat.ne_of_lt (Nat.lt_succ_self _))
    · exact absurd (List.mem_singleton.mp z) (Nat.ne_of_gt ll)
  have val : ∀ (i : Nat) (v : Value), ys[i]? = some v → ∃ k t, zs[i]? = some k ∧ v = .int k t := fun i v hv => by
    have hi : i < zs.length := len ▸ (Array.getElem?_eq_some_iff.mp hv).1
    obtain ⟨t, e⟩ := PyProof.Rows.IntsAre.int_at hz i v ((Array.getElem?_toList ..).trans hv)
    have q : zs[i]? = some zs[i] := List.getElem?_eq_getElem hi
    exact ⟨_, t, q, by rw [e, List.getD_eq_getElem?_getD, q, Option.getD_some]⟩
  have at1 : ((s.heap.push (nS w)).push { cls := .type "list_iterator", data := .fields #[.ref l, .int 0 0] }).get? s.heap.objs.size = some (nS w) := Heap.get?_push_of_some _ at0
  have h3 : A.in1.handled = none := h0
  refine set_update_ints ((Walks.list h3 _ l nl ys).toS) _ ns zs len hb val (ys.size - 0) 0 _ rfl (Nat.zero_le _) ?st ?start fun s2 c mv hc r => ?_
  case st => exact ⟨⟨_, Heap.get?_push_size _ rfl, rfl, rfl⟩, l1.push _⟩
  case start => exact ⟨0, Nat.le_refl 0, setR_new_at (w := w) at1⟩
  obtain ⟨h2, g2, d2, t2, o2⟩ := s2
  have e1 : g2 = s.gens := mv.gens
  have e2 : d2 = s.drawn := mv.drawn
  have e3 : o2 = s.os := mv.os
  subst e1
  subst e2
  subst e3
  refine wpAny_pure (wpAny_pure ⟨rfl, h2, t2, c, rfl, r, fun b o e => ?_⟩)
  have lt : b < s.heap.objs.size := Heap.lt_size e
  refine mv.heap b o (fun z => ?_) (Heap.get?_push_of_some _ (Heap.get?_push_of_some _ e))
  rcases List.mem_cons.mp z with z | z
  · exact absurd z (Nat.ne_of_lt lt)
  · rw [sz] at z
    exact absurd (List.mem_singleton.mp z) (Nat.ne_of_lt (Nat.lt_succ_of_lt lt))
theorem call_ints {l : Addr} {ys : Array Value} (zs : List Int) {Q : Value → Shared → Prop} (h0 : A.handled = none) (hl : s.heap.IsList l ys) (hz : IntsAre ys.toList zs) (hb : zs.length + 1 < scanBound)
    (q : ∀ h' tk c, SetR w h' s.heap.objs.size (fun j => decide (j ∈ zs)) c → (∀ b o, s.heap.get? b = some o → h'.get? b = some o) → Q (.ref s.heap.objs.size) { s with heap := h', toks := tk }) :
    wpAny (model P w) A (call (.type "set") [.ref l]) Q E s := by
  obtain ⟨mc, mt, m1⟩ := F.called_set.mro
  have m2 := F.called_set.made
  have m3 := F.called_set.sub
  have m4 := F.called_set.notType
  have m5 := F.called_set.canCreate
  have m6 := F.typeCall_set_1 (.ref l)
  refine wpAny_call (codeAny_of_tree ?_)
  show wpAny (model P w) _ (callAny (.type "set") ⟨[.ref l], []⟩) _ _ s
  refine wpAny_pure ⟨Code.quiet_builtin _ (by decide +kernel), codeAny_builtin F.entry_type_call ?_⟩
  rw [Around.under_plain (weight_type_call_type "set" [.ref l] []) rfl]
  repeat (any_goals (first | assumption | wp_step))
  refine codeAny_mono (code_set_led1 (.ref l) (E := E) (Q₁ := fun v s1 => v = .ref s.heap.objs.size ∧ s1 = { s with heap := s.heap.push (nS w) }) ⟨rfl, rfl⟩) fun r s1 hr => ?_
  cases r with
  | error e => exact hr
  | ok fl =>
    cases fl with
    | ret v =>
      obtain ⟨rfl, rfl⟩ := hr
      have at0 : (s.heap.push (nS w)).get? s.heap.objs.size = some (nS w) := Heap.get?_push_size _ rfl
      have ty : Shared.TypeIs { s with heap := s.heap.push (nS w) } (.ref s.heap.objs.size) "set" := ⟨_, at0, rfl⟩
      have m7 := F.called_set.init.lookup
      have m8 := F.called_set.init.bind (.ref s.heap.objs.size)
      repeat (any_goals (first | assumption | wp_step))
      refine codeAny_mono (codeAny_call_builtin (R := wants (fun v s2 => v = .none ∧ ∃ h' tk c, s2 = { s with heap := h', toks := tk } ∧ SetR w h' s.heap.objs.size (fun j => decide (j ∈ zs)) c ∧ (∀ b o, s.heap.get? b = some o → h'.get? b = some o)) E) F.called_set.init.plain F.entry_set_init (check_set_init_1 ty ?_)) fun r2 s2 hr2 => ?_
      · refine wpAny_mono (init_ints (A := A.in1.in1) (E := E) zs (by simp [h0]) hl hz hb) (fun f s3 ⟨ef, z⟩ => ?_) fun _ _ x => x
        subst ef
        exact ⟨rfl, z⟩
      · cases r2 with
        | error e => exact hr2
        | ok f2 =>
          cases f2 with
          | ret v =>
            obtain ⟨rfl, h', tk, c, rfl, r, k⟩ := hr2
            repeat (any_goals (first | assumption | wp_step))
            exact q h' tk c r k
          | _ => exact hr2.elim
    | _ => exact hr.elim
end
def insI (p : Int) : List Int → List Int
  | [] => [p]
  | q :: r => if p = q then q :: r else if p < q then p :: q :: r else q :: insI p r
def sdI : List Int → List Int
  | [] => []
  | p :: r => insI p (sdI r)
theorem insI_mem (p z : Int) : ∀ l, z ∈ insI p l ↔ z = p ∨ z ∈ l
  | [] => by simp [insI]
  | q :: r => by
    unfold insI
    by_cases c : p = q
    · subst c
      simp
    · rw [if_neg c]
      by_cases d : p < q
      · rw [if_pos d, List.mem_cons]
      · rw [if_neg d, List.mem_cons, insI_mem p z r, List.mem_cons, or_left_comm]
theorem insI_srt (p : Int) : ∀ l : List Int, l.Pairwise (· < ·) → (insI p l).Pairwise (· < ·)
  | [], _ => List.pairwise_singleton _ _
  | q :: r, h => by
    obtain ⟨h1, h2⟩ := List.pairwise_cons.mp h
    unfold insI
    by_cases c : p = q
    · rw [if_pos c]; exact h
    · rw [if_neg c]
      by_cases d : p < q
      · rw [if_pos d]
        refine List.pairwise_cons.mpr ⟨fun z hz => ?_, h⟩
        rcases List.mem_cons.mp hz with rfl | hz
        · exact d
        · exact Int.lt_trans d (h1 z hz)
      · rw [if_neg d]
        refine List.pairwise_cons.mpr ⟨fun z hz => ?_, insI_srt p r h2⟩
        rcases (insI_mem p z r).mp hz with rfl | hz
        · show q < z; omega
        · exact h1 z hz
theorem sdI_mem (z : Int) : ∀ l, z ∈ sdI l ↔ z ∈ l
  | [] => by simp [sdI]
  | p :: r => by
    show z ∈ insI p (sdI r) ↔ _
    rw [insI_mem, sdI_mem z r, List.mem_cons]
theorem sdI_srt : ∀ l, (sdI l).Pairwise (· < ·)
  | [] => List.Pairwise.nil
  | p :: r => insI_srt p _ (sdI_srt r)
theorem rise_one : ∀ {l m : List Int}, l.Pairwise (· < ·) → m.Pairwise (· < ·) → (∀ z, z ∈ l ↔ z ∈ m) → l = m
  | [], [], _, _, _ => rfl
  | [], q :: m, _, _, h => by have := (h q).mpr (by simp); cases this
  | p :: l, [], _, _, h => by have := (h p).mp (by simp); cases this
  | p :: l, q :: m, hl, hm, h => by
    obtain ⟨l1, l2⟩ := List.pairwise_cons.mp hl
    obtain ⟨m1, m2⟩ := List.pairwise_cons.mp hm
    have e : p = q := by
      have a := (h p).mp (by simp)
      have b := (h q).mpr (by simp)
      rcases List.mem_cons.mp a with a | a
      · exact a
      · rcases List.mem_cons.mp b with b | b
        · exact b.symm
        · have := m1 p a
          have := l1 q b
          omega
    subst e
    rw [rise_one l2 m2 fun z => ⟨fun hz => ?_, fun hz => ?_⟩]
    · rcases List.mem_cons.mp ((h z).mp (by simp [hz])) with rfl | q
      · exact absurd (l1 _ hz) (Int.lt_irrefl _)
      · exact q
    · rcases List.mem_cons.mp ((h z).mpr (by simp [hz])) with rfl | q
      · exact absurd (m1 _ hz) (Int.lt_irrefl _)
      · exact q
theorem nodup_le : ∀ (l m : List Int), l.Nodup → (∀ x ∈ l, x ∈ m) → l.length ≤ m.length
  | [], _, _, _ => Nat.zero_le _
  | a :: l, m, nd, h => by
    obtain ⟨n1, n2⟩ := List.nodup_cons.mp nd
    have am := h a (by simp)
    have ih := nodup_le l (m.erase a) n2 fun x hx => (List.mem_erase_of_ne (fun z : x = a => n1 (by rw [← z]; exact hx))).mpr (h x (by simp [hx]))
    rw [List.length_erase_of_mem am] at ih
    have := List.length_pos_of_mem am
    rw [List.length_cons]
    omega
theorem setR_few {w : World} {h : Heap} {a : Addr} {S : Int → Bool} {n : Nat} {zs : List Int} (R : SetR w h a S n) (hS : ∀ k, S k = true → k ∈ zs) : n ≤ zs.length := by
  obtain ⟨o, es, ep, t, _, _, _, _, h1, h2, _, _, h3, _⟩ := R
  have := nodup_le _ zs h1 fun x hx => hS x ((h2 x).mpr hx)
  rw [List.length_map, Array.length_toList] at this
  omega
def rSetI (K : PySem.W.Frag) (w : World) : List V → Hp → VK → Prop := fun xs H Q => ∃ (l : Addr) (zs : List Int), xs = [V.ref l] ∧ SqL K H l (zs.map V.int) ∧ zs.length ≤ 1000 ∧
  ∀ a c, H a = none → c ≤ (sdI zs).length → Q (.ref a) (upd H a (SetO w a (fun j => decide (j ∈ zs)) c))
theorem cr_setI {X : Cx} (hc : X.calm = true) : CallR X (.type "set") (rSetI X.K X.w) := by
  intro pins s σ H xs us Q I r h
  obtain ⟨l, zs, rfl, hl, hf, q⟩ := h
  rw [Vals.ref1 r]
  obtain ⟨its, rv, pl, hz⟩ := I.list hl
  have hn : H s.heap.objs.size = none := I.hok.fresh (Nat.le_refl _)
  refine call_ints (P := X.prog) (w := X.w) zs (I.ok.hd hc) pl.isList (ints_of_vals rv) (Nat.lt_of_le_of_lt (show zs.length + 1 ≤ 1001 by omega) (by decide)) fun h' tk c R k => ?_
  have few := setR_few (zs := sdI zs) R fun j hj => (sdI_mem j zs).mpr (of_decide_eq_true hj)
  exact ⟨.ref s.heap.objs.size, _, I.laid (t' := tk) k (Nat.le_refl _) (setO_new R), rfl, q _ c hn few⟩
def rSortSetI (K : PySem.W.Frag) (w : World) : List V → Hp → VK → Prop := fun xs H Q => rSetI K w xs H fun v H2 => rSortedSet w [v] H2 Q
def dSortSetI : List D → Option (D × Bool)
  | [.list ds] => match intsD ds with
    | some zs => if zs.length ≤ 1000 ∧ (sdI zs).length < 64 then some (.list ((sdI zs).map PyData.int), true) else none
    | none => none
  | _ => none
theorem rep_intsM {C : Ct} {W : Addr → Prop} {H : Hp} : ∀ ns : List Int, RepL C W H (ns.map V.int) (ns.map PyData.int)
  | [] => .nil
  | n :: r => .cons (.int n) (rep_intsM r)
theorem cd_sortSetI {C : Ct} {w : World} : CallD C (rSortSetI C.K w) dSortSetI := fun G δ σ H xs ds p Q E r e q => by
  unfold dSortSetI at e
  split at e
  · rename_i es
    split at e
    · rename_i zs hp
      by_cases hc : zs.length ≤ 1000 ∧ (sdI zs).length < 64
      · rw [if_pos hc] at e
        cases e
        obtain ⟨v, rfl, rv⟩ := r.one_inv
        cases rv with
        | lst n h rl =>
          have hq : SqL C.K H _ (zs.map V.int) := ints_of rl hp ▸ SqL.of h
          refine ⟨_, zs, rfl, hq, hc.1, fun a c ha hcl => ?_⟩
          have x1 : Ext δ σ H δ σ (upd H a (SetO w a (fun j => decide (j ∈ zs)) c)) := Ext.grow ha
          have E1 : ERel C G δ σ (upd H a (SetO w a (fun j => decide (j ∈ zs)) c)) := (E.grow ha fun ys e => by cases e).less
          refine ⟨a, _, c, rfl, upd_same, by omega, fun ns p pw mem _ hp => ?_⟩
          have eq : ns = sdI zs := rise_one pw (sdI_srt zs) fun z => by rw [mem, sdI_mem, decide_eq_true_iff]
          subst eq
          refine newl E1 (fun u H' E' X' r' f' => q u H' E' (x1.trans X') r' fun z => ?_) (rep_intsM _) (by rw [List.length_map, sizeLine_eq]; omega) hp
          obtain ⟨f1, f2⟩ := f' z
          exact ⟨f1, fun b hb => (f2 b hb).imp (fun z => by
            by_cases ba : b = a
            · rw [ba, upd_same] at z; cases z
            · rwa [upd_ne ba] at z) id⟩
      · rw [if_neg hc] at e
        cases e
    · cases e
  · cases e
theorem pd_sortSetI {C : Ct} {W : WX} {G : Gh} {X : Cx} {e : Expr} {gr : Sl → R Sl (List D)} {p p2 pos pos2 : Pos} (hc : X.calm = true) (hg : Gl X "sorted") (hm : X.mg "sorted" = none) (hg2 : Gl X "set") (hm2 : X.mg "set" = none) (ha : PA X [e] (tA C W G gr)) (hK : X.K = C.K)
    (hs : starEach [e] X.env = (false, eval e X.env) :: starEach [] X.env := by rfl)
    (hs2 : starEach [.Call (.Name "set" p2) [e] [] pos2] X.env = (false, eval (.Call (.Name "set" p2) [e] [] pos2) X.env) :: starEach [] X.env := by rfl) :
    PE X (.Call (.Name "sorted" p) [.Call (.Name "set" p2) [e] [] pos2] [] pos) (tD C W G (gCall dSortSetI gr)) := by
  have h1 := pe_callTy (p := p2) (pos := pos2) (cr_setI hc) hg2 hm2 boot_set ha (by decide) (by decide) hs rfl
  have h2 := pe_callB (p := p) (pos := pos) (cr_sortedSet hc) hg hm boot_sorted (pa_cons h1 pa_nil hs2) (by decide) (by decide) hs2 rfl
  refine PE.imp h2 fun σ H Q h => ?_
  have := tD_call (C := C) (W := W) (G := G) (r := rSortSetI X.K X.w) (hK ▸ cd_sortSetI) σ H Q h
  exact this
end DL

namespace DL
open PySem PySem.Spec L2
open PyProof.Rows hiding St
/-- the data of a dict of ints -/
def dkD (ps : List (Int × Int)) : D := .dict [(.bool true, .tuple (ps.map fun p => .tuple [.int p.1, .int p.2]))]
def kvI (p : Int × Int) : Key × V := (.inl p.1, .int p.2)
def nodK : List (Int × Int) → Bool
  | [] => true
  | p :: r => r.all (fun q => decide (q.1 ≠ p.1)) && nodK r
theorem valV_app2 {k : Key} : ∀ {a b : List (Key × V)}, valV a k = none → valV b k = none → valV (a ++ b) k = none
  | [], _, _, h => h
  | p :: a, b, h1, h2 => by
    by_cases e : p.1 = k
    · rw [valV_pos e] at h1; cases h1
    · rw [valV_neg e] at h1
      rw [List.cons_append, valV_neg e]
      exact valV_app2 h1 h2
theorem merge_nod : ∀ (ps : List (Int × Int)) (acc : List (Key × V)), nodK ps = true → (∀ p ∈ ps, valV acc (.inl p.1) = none) → mergeK acc (ps.map kvI) = acc ++ ps.map kvI
  | [], acc, _, _ => (List.append_nil _).symm
  | p :: r, acc, h, ha => by
    unfold nodK at h
    rw [Bool.and_eq_true, List.all_eq_true] at h
    show mergeK (putK acc (.inl p.1) (.int p.2)) (r.map kvI) = _
    rw [putK_new _ (ha p (by simp)), merge_nod r _ h.2 fun q hq => valV_app2 (ha q (by simp [hq])) ?_]
    · rw [List.append_assoc]
      rfl
    · have := of_decide_eq_true (h.1 q hq)
      rw [valV_neg (fun z => this (Sum.inl.inj z).symm)]
      rfl
def dDictP : List D → Option (D × Bool)
  | [.list ds] => match prsI ds with
    | some ps => if nodK ps = true then some (dkD ps, false) else none
    | none => none
  | _ => none
def rDictP (K : PySem.W.Frag) : List V → Hp → VK → Prop := fun xs H Q => ∃ (a : Addr) (ps : List Addr) (kvs : List (Key × V)), xs = [.ref a] ∧ SqL K H a (ps.map V.ref) ∧ Paired (fun p kv => SqT K H p [kV kv.1, kv.2]) ps kvs ∧
  ∀ p, H p = none → Q (.ref p) (upd H p (.dK (mergeK [] kvs)))
theorem pairs_at {C : Ct} {W : Addr → Prop} {H : Hp} : ∀ {ps : List (Int × Int)} {xs : List V}, RepL C W H xs (ps.map pD) → ∃ as : List Addr, xs = as.map V.ref ∧ Paired (fun p kv => SqT C.K H p [kV kv.1, kv.2]) as (ps.map kvI)
  | [], _, h => by cases h; exact ⟨[], rfl, .nil⟩
  | p :: ps, _, h => by
    cases h with
    | cons r t =>
      obtain ⟨as, rfl, h2⟩ := pairs_at t
      cases r with
      | tup hs rs =>
        obtain ⟨u, w, rfl, ra, rb⟩ := rs.two_inv
        cases ra; cases rb
        exact ⟨_ :: as, rfl, .cons hs h2⟩
theorem cd_dictP {C : Ct} : CallD C (rDictP C.K) dDictP := fun G δ σ H xs ds p Q E r e q => by
  unfold dDictP at e
  split at e
  · rename_i es
    split at e
    · rename_i ps hp
      by_cases hc : nodK ps = true
      · rw [if_pos hc] at e
        cases e
        obtain ⟨v, rfl, rv⟩ := r.one_inv
        cases rv with
        | lst n h rl =>
          rw [prsI_ok hp] at rl
          obtain ⟨as, rfl, pd⟩ := pairs_at rl
          refine ⟨_, as, _, rfl, SqL.of h, pd, fun p hp => ?_⟩
          rw [merge_nod ps [] hc fun _ _ => rfl, List.nil_append]
          exact q _ _ (E.grow hp fun ys e => by cases e).less (Ext.grow hp) (.dki (fun z => E.wwH z hp) upd_same) fun z => nomatch z
      · rw [if_neg hc] at e
        cases e
    · cases e
  · cases e
def dLenD : List D → Option (D × Bool)
  | [.dict [(.bool true, .tuple ps)]] => some (.int (ps.length : Nat), false)
  | _ => none
def rLenD : List V → Hp → VK → Prop := fun xs H Q => ∃ a kvs, xs = [V.ref a] ∧ H a = some (.dK kvs) ∧ Q (.int kvs.length) H
theorem cd_lenD {C : Ct} : CallD C rLenD dLenD := fun G δ σ H xs ds p Q E r e q => by
  unfold dLenD at e
  split at e
  · cases e
    obtain ⟨v, rfl, rv⟩ := r.one_inv
    cases rv with
    | dki n h =>
      refine ⟨_, _, rfl, h, ?_⟩
      rw [List.length_map]
      exact atom E q (by rw [List.length_map]; exact .int _)
  · cases e
def lookI (k : Int) : List D → Option D
  | [] => none
  | .tuple [.int a, b] :: r => if a = k then some b else lookI k r
  | _ :: r => lookI k r
def dGet (d : D) (k : D) (z : D) : Option D := match d, k with
  | .dict [], .int _ => some z
  | .dict [(.bool true, .tuple ps)], .int i => some ((lookI i ps).getD z)
  | _, _ => none
theorem look_val (k : Int) : ∀ ps : List (Int × Int), (valV (ps.map kvI) (.inl k) = none ∧ lookI k (ps.map fun p => .tuple [.int p.1, .int p.2]) = none) ∨ ∃ i, valV (ps.map kvI) (.inl k) = some (.int i) ∧ lookI k (ps.map fun p => .tuple [.int p.1, .int p.2]) = some (.int i)
  | [] => .inl ⟨rfl, rfl⟩
  | p :: r => by
    by_cases e : p.1 = k
    · right
      refine ⟨p.2, ?_, ?_⟩
      · rw [List.map_cons, valV_pos (by show Sum.inl p.1 = _; rw [e])]
        rfl
      · rw [List.map_cons]
        show (if p.1 = k then some (PyData.int p.2) else _) = _
        rw [if_pos e]
    · have s1 : valV ((p :: r).map kvI) (.inl k) = valV (r.map kvI) (.inl k) := by rw [List.map_cons, valV_neg (fun z => e (Sum.inl.inj z))]
      have s2 : lookI k ((p :: r).map fun p => .tuple [.int p.1, .int p.2]) = lookI k (r.map fun p => .tuple [.int p.1, .int p.2]) := by
        rw [List.map_cons]
        show (if p.1 = k then some (PyData.int p.2) else _) = _
        rw [if_neg e]
      rw [s1, s2]
      exact look_val k r
def gDget (gd gk gz : Sl → EV) : Sl → EV := fun δ => (gd δ).bind fun x δ1 => match x.1 with
  | .dict [] | .dict [(.bool true, .tuple _)] => (gk δ1).bind fun y δ2 => (gz δ2).bind fun z δ3 => match dGet x.1 y.1 z.1 with
    | some r => .ok (r, false) δ3
    | none => .stk
  | _ => .stk
section
variable {C : Ct} {W : WX} {G : Gh} {X : Cx} {a b c : Expr} {gd gk gz : Sl → EV} {apos pos : Pos}
theorem pd_dget (hu : X.A.units + 1 < cLine) (ha : PE X a (tD C W G gd)) (hb : PE X b (tD C W G gk)) (hc : PE X c (tD C W G gz)) (m : M2 X a "get" apos b c pos) : PE X (.Call (.Attribute a "get" apos) [b, c] [] pos) (tD C W G (gDget gd gk gz)) :=
  PE.imp (pe_dget2 hu ha hb hc m) fun σ H Q ⟨δ, E, p⟩ => by
    unfold gDget at p
    refine ⟨δ, E, (Post.bind p).imp fun x δ1 H1 E1 X1 p1 v rv _ => ?_⟩
    obtain ⟨x, fx⟩ := x
    have main : ∀ (kvs : List (Key × V)) (a : Addr), v = .ref a → H1 a = some (.dK kvs) → (∀ (w z : V) (dk dz r : D) δ3 H3, ERel C G δ3 σ H3 → dGet x dk dz = some r → Rep C (WW G δ3 σ) H3 w dk → Rep C (WW G δ3 σ) H3 z dz → ∃ k, w = kV k ∧ Rep C (WW G δ3 σ) H3 ((valV kvs k).getD z) r) →
        Rep C (WW G δ1 σ) H1 v x →
        Post C W G δ1 σ H1 (kE C G δ σ H Q) ((gk δ1).bind fun y δ2 => (gz δ2).bind fun z δ3 => match dGet x y.1 z.1 with
          | some r => .ok (r, false) δ3
          | none => .stk) →
        (∃ a, v = .ref a ∧ IsD H1 a ∧ tD C W G gk σ H1 fun y H2 => tD C W G gz σ H2 fun z H3 => ∃ o, DGet H3 a y o ∧ Q (o.getD z) H3) := fun kvs a ev ha st rv p1 => by
      subst ev
      have keep : ∀ {δ' : Sl} {H' : Hp}, Ext δ1 σ H1 δ' σ H' → H' a = some (.dK kvs) := fun {δ' H'} e => e.kp a _ ha fun _ xs z => nomatch z
      refine ⟨a, rfl, .inl ⟨kvs, .of ha⟩, δ1, E1, (Post.bind p1).imp fun y δ2 H2 E2 X2 p2 w rw _ => ⟨δ2, E2, (Post.bind p2).imp fun z δ3 H3 E3 X3 p3 u ru _ => ?_⟩⟩
      split at p3
      · rename_i r hr
        obtain ⟨k, rfl, rr⟩ := st w u y.1 z.1 r δ3 H3 E3 hr (X3.rep rw) ru
        exact ⟨valV kvs k, .inl ⟨kvs, k, .of (keep (X2.trans X3)), rfl, rfl⟩, p3 H3 E3 Ext.refl _ rr fun z => nomatch z⟩
      · exact (show False from p3).elim
    split at p1
    · rename_i hx
      dsimp only at hx
      subst hx
      cases rv with
      | dct n h => exact main [] _ rfl h (fun w z dk dz r δ3 H3 _ hr rw rz => by
          cases dk <;> first | (cases hr; done) | skip
          cases rw
          cases hr
          exact ⟨.inl _, rfl, rz⟩) (.dct n h) p1
    · rename_i ps hx
      dsimp only at hx
      subst hx
      cases rv with
      | @dki a ps n h => exact main _ _ rfl h (fun w z dk dz r δ3 H3 _ hr rw rz => by
          cases dk <;> first | (cases hr; done) | skip
          rename_i i
          cases rw
          cases hr
          refine ⟨.inl i, rfl, ?_⟩
          rcases look_val i ps with ⟨h1, h2⟩ | ⟨j, h1, h2⟩
          · rw [h2]
            have h1 : valV (ps.map fun p => (Sum.inl p.1, V.int p.2)) (.inl i) = none := h1
            rw [h1]
            exact rz
          · rw [h2]
            have h1 : valV (ps.map fun p => (Sum.inl p.1, V.int p.2)) (.inl i) = some (.int j) := h1
            rw [h1]
            exact .int j) (.dki n h) p1
    · exact (show False from p1).elim
end
end DL

namespace DL
open PySem PySem.Spec L2
open PyProof.Rows hiding St
def strsD : List D → Option (List Str)
  | [] => some []
  | .str x :: r => (strsD r).map (x :: ·)
  | _ :: _ => none
theorem strs_of {C : Ct} {W : Addr → Prop} {H : Hp} : ∀ {vs : List V} {ds : List D} {ys : List Str}, RepL C W H vs ds → strsD ds = some ys → vs = ys.map V.str
  | _, _, _, .nil, e => by cases e; rfl
  | _, _, ys, .cons (d := d) r t, e => by
    cases d <;> first | (cases e; done) | skip
    rename_i x
    unfold strsD at e
    cases q : strsD _ with
    | none => rw [q] at e; cases e
    | some zs =>
      rw [q] at e
      cases e
      cases r
      rw [strs_of t q]
      rfl
theorem rep_strsM {C : Ct} {W : Addr → Prop} {H : Hp} : ∀ ys : List Str, RepL C W H (ys.map V.str) (ys.map PyData.str)
  | [] => .nil
  | y :: r => .cons (.str y) (rep_strsM r)
section
variable {C : Ct} {W : WX} {G : Gh} {X : Cx} {o e : Expr} {go ge : Sl → EV} {apos pos : Pos}
def gJoin (go ge : Sl → EV) : Sl → EV := fun δ => (go δ).bind fun x δ1 => match x.1 with
  | .str a => (ge δ1).bind fun y δ2 => match y.1 with
    | .list ds => match strsD ds with
      | some ys => if (ys.map (·.length)).sum + ys.length * a.length ≤ 16777216 then .ok (.str (Txt.join a ys), false) δ2 else .stk
      | none => .stk
    | _ => .stk
  | _ => .stk
theorem pd_join (ho : PE X o (tD C W G go)) (he : PE X e (tD C W G ge)) (hK : X.K = C.K := by rfl) (hs : starEach [e] X.env = [(false, eval e X.env)] := by rfl) (hbase : attributeBase o "join" X.env (eval o X.env) = eval o X.env := by rfl) (hline : (apos.endLine == pos.line) = true := by rfl) :
    PE X (.Call (.Attribute o "join" apos) [e] [] pos) (tD C W G (gJoin go ge)) := by
  have h := pe_join ho he hs hbase hline
  rw [hK] at h
  refine PE.imp h fun σ H Q ⟨δ, E, p⟩ => ⟨δ, E, (Post.bind p).imp fun x δ1 H1 E1 X1 p1 v rv fv => ?_⟩
  obtain ⟨x, fx⟩ := x
  clear fv
  cases x <;> first | exact (show False from p1).elim | skip
  rename_i a
  cases rv
  refine ⟨⟨a, rfl⟩, δ1, E1, (Post.bind p1).imp fun y δ2 H2 E2 X2 p2 w rw fw => ?_⟩
  obtain ⟨y, fy⟩ := y
  clear fw
  cases y <;> first | exact (show False from p2).elim | skip
  rename_i ds
  cases rw with
  | lst n hh r =>
    have p3 : Post C W G δ2 σ H2 (kE C G δ σ H Q) (match strsD ds with
      | some ys => if (ys.map (·.length)).sum + ys.length * a.length ≤ 16777216 then .ok (.str (Txt.join a ys), false) δ2 else .stk
      | none => .stk) := p2
    split at p3
    · rename_i ys hy
      split at p3
      · rename_i hl
        rw [strs_of r hy] at hh
        exact ⟨a, _, ys, rfl, rfl, .inl (SqL.of hh), hl, now E2 p3 _ (.str _) fun z => nomatch z⟩
      · exact p3.elim
    · exact p3.elim
def gSplit (go ge : Sl → EV) : Sl → EV := fun δ => (go δ).bind fun x δ1 => match x.1 with
  | .str a => (ge δ1).bind fun y δ2 => match y.1 with
    | .str b => if (b.length == 0) = false ∧ a.length + 2 ≤ LINE ∧ (Txt.split a b).length ≤ LINE then .ok (.list ((Txt.split a b).map PyData.str), true) δ2 else .stk
    | _ => .stk
  | _ => .stk
theorem pd_split (ho : PE X o (tD C W G go)) (he : PE X e (tD C W G ge)) (hs : starEach [e] X.env = [(false, eval e X.env)] := by rfl) (hbase : attributeBase o "split" X.env (eval o X.env) = eval o X.env := by rfl) (hline : (apos.endLine == pos.line) = true := by rfl) :
    PE X (.Call (.Attribute o "split" apos) [e] [] pos) (tD C W G (gSplit go ge)) := by
  refine PE.imp (pe_split ho he hs hbase hline) fun σ H Q ⟨δ, E, p⟩ => ⟨δ, E, (Post.bind p).imp fun x δ1 H1 E1 X1 p1 v rv fv => ?_⟩
  obtain ⟨x, fx⟩ := x
  clear fv
  cases x <;> first | exact (show False from p1).elim | skip
  rename_i a
  cases rv
  refine ⟨⟨a, rfl⟩, δ1, E1, (Post.bind p1).imp fun y δ2 H2 E2 X2 p2 w rw fw => ?_⟩
  obtain ⟨y, fy⟩ := y
  clear fw
  cases y <;> first | exact (show False from p2).elim | skip
  rename_i b
  cases rw
  have p3 : Post C W G δ2 σ H2 (kE C G δ2 σ H2 Q) (if (b.length == 0) = false ∧ a.length + 2 ≤ LINE ∧ (Txt.split a b).length ≤ LINE then .ok (.list ((Txt.split a b).map PyData.str), true) δ2 else .stk) := Post.at p2 (X1.trans X2)
  split at p3
  · rename_i c
    exact ⟨a, b, rfl, rfl, c.1, by rw [← line_eq]; exact c.2.1, fun q hq => newl E2 (fun u H' E' X' r' f' => p3 H' E' X' u r' f') (rep_strsM _) (by rw [List.length_map, ← line_eq]; exact c.2.2) hq⟩
  · exact p3.elim
end
def dInS : DOp
  | .str x, .str z => match x.cps.toList with
    | [c] => some (.bool (decide (c ∈ z.cps.toList)), false)
    | _ => none
  | _, _ => none
theorem od_inS {C : Ct} : OpD C (fun x y H Q => ∃ (c : Nat) (z : Str), x = .str ⟨#[c]⟩ ∧ y = .str z ∧ Q (.bl (decide (c ∈ z.cps.toList))) H) dInS := fun G δ σ H x y v w p Q E rx ry e q => by
  unfold dInS at e
  split at e
  · rename_i a z
    split at e
    · rename_i c hc
      cases e
      cases rx
      cases ry
      refine ⟨c, z, ?_, rfl, atom E q (.bl _)⟩
      obtain ⟨xs⟩ := a
      congr 2
      exact Array.toList_inj.mp hc
    · cases e
  · cases e
def dMulS : DOp
  | .str x, .int n => if x.length ≤ 100 ∧ 0 ≤ n ∧ n ≤ 10000 then some (.str (Txt.mul x n), false) else none
  | _, _ => none
def rMulS : R2 := fun x y H Q => ∃ (a : Str) (n : Int), x = .str a ∧ y = .int n ∧ MulOk a n ∧ Q (.str (Txt.mul a n)) H
theorem op_mulS {X : Cx} : OpR X (binaryOp .Mult) rMulS := by
  intro pins s σ H x y v u Q I rx ry ⟨a, n, e1, e2, ok, q⟩
  subst e1
  subst e2
  obtain ⟨t, rfl⟩ := rx
  obtain ⟨t', rfl⟩ := ry
  exact SB.mul ok fun t2 k => ⟨.str (Txt.mul a n), H, I.tok _, ⟨_, rfl⟩, q⟩
theorem od_mulS {C : Ct} : OpD C rMulS dMulS := fun G δ σ H x y v w p Q E rx ry e q => by
  unfold dMulS at e
  split at e
  · rename_i a n
    split at e
    · rename_i c
      cases e
      cases rx
      cases ry
      exact ⟨a, n, rfl, rfl, mulOk_of 100 10000 c.1 (by omega) (by omega) (by decide) (by decide), atom E q (.str _)⟩
    · cases e
  · cases e
def signsD (z : Str) : List D := z.cps.toList.map fun c => .str ⟨#[c]⟩
section
variable {C : Ct} {W : WX} {G : Gh} {X : Cx} {tg a : Expr} {ga : Sl → EV}
theorem src_str {z : Str} : SrcOk C (Its z) (signsD z) (fun _ _ => True) where
  mv := fun _ _ _ _ _ _ _ _ _ => trivial
  go := fun W H i d _ e => by
    unfold signsD at e
    rw [List.getElem?_map] at e
    obtain ⟨c, hc, rfl⟩ := Option.map_eq_some_iff.mp e
    have lt := (List.getElem?_eq_some_iff.mp hc).1
    rw [Array.length_toList] at lt
    refine ⟨lt, fun x H' ⟨hH, c', h1, h2⟩ => ?_⟩
    subst hH
    subst h2
    rw [Array.getElem?_toList] at hc
    rw [hc] at h1
    cases h1
    exact ⟨.inl rfl, .str _⟩
  stop := fun W H i _ h => by
    unfold signsD at h
    rwa [List.length_map, Array.length_toList] at h
def giStr (ga : Sl → EV) : Sl → R Sl (List D) := fun δ => (ga δ).bind fun x δ1 => match x.1 with
  | .str z => .ok (signsD z) δ1
  | _ => .stk
theorem pid_str (ha : PE X a (tD C W G ga)) : PI X tg a (tI C W G (giStr ga)) :=
  PI.imp (pi_str (tg := tg) ha) fun σ H R ⟨δ, E, p⟩ => ⟨δ, E, (Post.bind p).imp fun x δ1 H1 E1 X1 p1 v rv fv => by
    obtain ⟨d, fr⟩ := x
    clear fv
    cases d <;> first | exact (show False from p1).elim | skip
    cases rv
    exact ⟨_, rfl, p1 H1 E1 Ext.refl _ _ src_str trivial⟩⟩
end
def dListOf : List D → Option (D × Bool)
  | [.list xs] => if xs.length ≤ LINE then some (.list xs, true) else none
  | _ => none
theorem cd_listOf {C : Ct} : CallD C (fun xs H Q => ∃ p ys, xs = [.ref p] ∧ (SqL C.K H p ys ∨ SqT C.K H p ys) ∧ ∀ l, H l = none → Q (.ref l) (upd H l (.lst ys))) dListOf := fun G δ σ H xs ds p Q E r e q => by
  unfold dListOf at e
  split at e
  · rename_i es
    split at e
    · cases e
      obtain ⟨v, rfl, rv⟩ := r.one_inv
      cases rv with
      | lst n h rl => exact ⟨_, _, rfl, .inl (SqL.of h), fun l hl => newl E q rl (E.sz _ _ h) hl⟩
    · cases e
  · cases e
end DL

namespace DL
open PySem PySem.Spec L2
open PyProof.Rows hiding St

/-- the statements of a class -/
def bodyOfCls : Stmt → List Stmt
  | .ClassDef _ _ _ body _ _ _ _ _ _ _ => body
  | _ => []
def spInit (K : PySem.W.Frag) (f : Str) : Sp := fun vs H Q _ => ∃ (a C : Addr) (y : V), vs = [.ref a, y] ∧ OexC K C ∧ PySem.W.findIn K (.ref C) f = some none ∧ H a = some (exo a C none) ∧
  ∀ dx, H dx = none → dx ≠ a → Q .non (upd (upd H dx (exd dx [(f, y)])) a (exo a C (some dx)))
theorem init_ok {P : Program} {w : World} {K : PySem.W.Frag} {mg : Str → Option Value} {base : Heap} {qual f : Str} {st : Stmt} {fa : Addr} {fd : FuncData} {p1 p2 p3 p4 : Pos} (Fn : Fun K "__init__" qual st fa fd) (S : FnScope ["self", f] ["self", f] (defScope st))
    (hb : defBody st = [.Assign [.Attribute (.Name "self" p1) f p2] (.Name f p3) p4]) (v0 : Vis (defScope st) "self") (v1 : Vis (defScope st) f) (d0 : (f == ("__debug__" : Str)) = false) (d1 : (f == ("__classdict__" : Str)) = false)
    (hs : ∀ env : Env, swapsWith (.Name f p3) (some (.Attribute (.Name "self" p1) f p2)) p4.line env = pure false) : FnOk P w K mg base (L2.CX P w) 1 fa fd ["self", f] (spInit K f) :=
  Fun.okX (k := 0) Fn S (fun vs H Q E ⟨a, C, y, e, _⟩ => by rw [e]; rfl) fun cdv A outer s H vs Q E hr ⟨a, C, y, e, T, nf, ha, q⟩ => by
    subst e
    rw [hb]
    refine ⟨_, pss_one (ps_ost (pe_var (i := 0) rfl v0) (pe_var (i := 1) rfl v1 d0 d1) (hs _)), ?_⟩
    exact ⟨y, rfl, .ref a, rfl, a, C, rfl, T, nf, .inl ⟨ha, q⟩⟩

/-- what the written part says of such a class -/
structure ExI (K : PySem.W.Frag) (C : Addr) (f : Str) (fI : Addr) (fd : FuncData) : Prop where
  T : OexC K C
  iC : PySem.W.findIn K (.ref C) "__init__" = some (some (.ref fI))
  tI : PySem.W.typeIn K (.ref fI) = some (.type "function")
  nf : PySem.W.findIn K (.ref C) f = some none
  b : Binds K fd ["self", f] []
theorem refs_of_tail : ∀ l : List Value, PySem.W.excTail [.type "ValueError", .type "Exception", .type "BaseException", .type "object"] l = true → PySem.HandSPX.refsVE l = true := by
  intro l
  induction l with
  | nil => intro e; exact absurd e (by decide)
  | cons a r ih =>
    intro e
    rcases PySem.W.excTail_cases (a :: r) e with ⟨c, r', q, h⟩ | q
    · obtain ⟨rfl, rfl⟩ := List.cons.inj q
      exact ih h
    · rw [q]; decide
theorem oex_of {K : PySem.W.Frag} {C : Addr} (q : PySem.W.excInitIn K C [.type "ValueError", .type "Exception", .type "BaseException", .type "object"] "ValueError.__new__" = true) (hd : PySem.W.hasDictIn K C = true) (sa : PySem.W.findIn K (.ref C) "__setattr__" = some (some (.builtin "object.__setattr__")))
    (exC : PySem.W.subIn K (.ref C) (.type "BaseException") = some true) (tyC : PySem.W.typeIn K (.ref C) = some (.type "type")) (kC : PySem.W.keepIn K (.ref C) = true) : OexC K C := by
  refine ⟨?_, sa, exC, tyC, kC⟩
  obtain ⟨cd, hc, hh⟩ := PySem.W.any_some hd
  unfold PySem.W.excInitIn at q
  split at q
  · rename_i dd cd' sl ho
    split at q
    · rename_i C' bm k0 k1 k2 k3 n k5 hm hs
      simp only [Bool.and_eq_true, beq_iff_eq, Bool.not_eq_true'] at q
      obtain ⟨⟨⟨rfl, rfl⟩, hdel⟩, ht⟩ := q
      have e : cd' = cd := by
        unfold PySem.W.clsIn at hc
        rw [ho] at hc
        exact Option.some.inj hc
      subst e
      obtain ⟨nm, bs, mro, ns, qn, hd, sn, sub, ab, col, del⟩ := cd'
      dsimp only at hm hdel hh
      subst hm hdel hh
      have hsl : sl = #[k0, k1, k2, k3, some (.builtin "ValueError.__new__"), k5] := by
        obtain ⟨l⟩ := sl
        simp only at hs
        rw [hs]
      subst hsl
      exact ⟨nm, qn, ns, bs, bm, sn, sub, ab, col, dd, k0, k1, k2, k3, k5, ho, refs_of_tail _ ht⟩
    · cases q
  · cases q

def sRaiseF (c : Nat) (ga : Sl → EV) : Sl → SV := fun δ => (ga δ).bind fun p δ1 => .exc c [p.1] δ1
section
variable {C : Ct} {W : WX} {G : Gh} {X : Cx} {ga : Sl → EV}
theorem init_heap {H : Hp} {a dx : Addr} {o1 o2 o3 o4 : HO} (na : H a = none) (ne : dx ≠ a) : upd (del (upd (upd (upd H a o1) dx o2) a o3) a) dx o4 = upd H dx o4 := by
  funext b
  by_cases h1 : b = dx
  · subst h1; rw [upd_same, upd_same]
  · rw [upd_ne h1, upd_ne h1]
    by_cases h2 : b = a
    · subst h2; rw [del_same, na]
    · rw [del_ne h2, upd_ne h2, upd_ne h1, upd_ne h2]
theorem psd_raiseO {x : Str} {e : Expr} {c : Nat} {fI : Addr} {fd : FuncData} {p pos pos2 : Pos} (F1 : FnOk X.prog X.w X.K X.mg X.base (L2.CX X.prog X.w) 1 fI fd ["self", C.fld c] (spInit X.K (C.fld c))) (R : ExI X.K (C.cl c) (C.fld c) fI fd) (hc : X.calm = true) (tk : Takes X W) (hr : Room 2 X.A) (gC : X.mg x = some (.ref (C.cl c)))
    (he : PE X e (tD C W G ga)) (hg : Gl X x) (hdb : (x == ("__debug__" : Str)) = false := by decide) (h1 : starEach [e] X.env = (false, eval e X.env) :: starEach [] X.env := by rfl) (h2 : (backTo pos (starEach [] X.env)).any (·.1) = false := by rfl) :
    PS X (.Raise (some (.Call (.Name x p) [e] [] pos)) none pos2) (tS C W G (sRaiseF c ga)) :=
  PS.imp (ps_raise hc tk (pmk_oex R.T R.iC R.tI F1 hr R.b .nil passL hg gC (pa_cons he pa_nil h1) hdb h1 h2)) fun D σ H ⟨δ, E, p⟩ => by
    refine ⟨δ, E, (PostS.bindE p).imp fun x δ1 H1 E1 X1 p1 v rv _ => ?_⟩
    refine ⟨by simp, fun a na => ⟨a, C.cl c, v, rfl, R.T, R.nf, upd_same, fun dx nx ne => ⟨rfl, dx, [(C.fld c, v)], upd_same, by rw [upd_ne ne, upd_same], ?_, ?_⟩⟩⟩
    · rw [upd_ne ne] at nx; exact nx
    · rw [upd_ne ne] at nx
      rw [init_heap na ne]
      have Xg : Ext δ1 σ H1 δ1 σ (upd H1 dx (.xd [(C.fld c, v)])) := Ext.grow nx
      exact p1 _ (some dx) σ _ (E1.grow nx fun ys z => by cases z).less Xg IoK.refl ⟨rfl, .inr ⟨dx, v, x.1, rfl, rfl, upd_same, Xg.rep rv⟩⟩

def tXg (K : PySem.W.Frag) (D : Addr) (n : Str) (te : TE) : TE := fun σ H Q => te σ H fun x H1 => ∃ (a dd : Addr) (fs : List (Str × V)) (v : V), x = .ref a ∧ H1 a = some (XO a (.ref D) (some dd)) ∧ H1 dd = some (.xd fs) ∧ fs.lookup n = some v ∧ Q v H1
/-- the object of a kept error with its dict -/
theorem inst_xd {D a dd : Addr} {fs : List (Str × V)} {pins : List (Addr × Obj)} {σ : St} {H : Hp} {s : Shared} (I : Inv X pins σ H s) (hx : H a = some (XO a (.ref D) (some dd))) (hd : H dd = some (.xd fs)) :
    ∃ (o od : Obj) (mA : Str → Option Value), PySem.W.InstAt s.heap a o D (some od) ∧ (∀ f, RelO (fs.lookup f) (mA f)) ∧ ∀ f, PySem.W.lookIn f od = some (mA f) := by
  obtain ⟨⟨o, vs, h1, h2, h3, h4⟩, _, _⟩ := (show ObjOk X.prog X.w H s.heap a (XO a (.ref D) (some dd)) from I.hok a _ hx)
  obtain ⟨mA, hns, hr⟩ := (show ObjOk X.prog X.w H s.heap dd (.xd fs) from I.hok dd _ hd)
  obtain ⟨od, ho, hl⟩ := lookIn_ns hns
  exact ⟨o, od, mA, ⟨h1, h2, by unfold PySem.W.notCls; rw [h4], by rw [h3]; exact ho⟩, hr, hl⟩
theorem pe_xg {D : Addr} {e : Expr} {te : TE} {pos : Pos} {n : Str} (T : XfC X.K D) (hno : PySem.W.findIn X.K (.ref D) n = some none) (he : PE X e te) (hb : attributeBase e n X.env (eval e X.env) = eval e X.env := by rfl) : PE X (.Attribute e n pos) (tXg X.K D n te) := by
  refine ⟨fun pins s σ H Q I h => ?_⟩
  refine attr_of hb (thn (he.run pins s σ H _ I h) fun u s1 hh => ?_)
  obtain ⟨x, H1, I1, rx, a, dd, fs, v, ex, hx, hd, l, q⟩ := hh
  subst ex
  obtain rfl : u = Value.ref a := rx
  obtain ⟨o, od, mA, J, hr, hl⟩ := inst_xd I1 hx hd
  obtain ⟨u, hu, ru⟩ := RelO.some_of (v := v) (o := mA n) (by rw [← l]; exact hr n)
  exact HandSPX.exc_get I1.kIn J T.ga T.gg T.exC (PySem.W.findObj_own T.hdC hno rfl (by rw [hl, hu])) (handed_of ru) ⟨v, H1, I1.tok _, ru, q⟩
def gFldE (c : Nat) (ga : Sl → EV) : Sl → EV := fun δ => (ga δ).bind fun p δ1 => match p.1 with
  | .dict [(.none, .int j), (.none, d)] => if j = (c : Int) then .ok (d, false) δ1 else .stk
  | _ => .stk
theorem exc1_inv {W : Addr → Prop} {H : Hp} {v : V} {j : Int} {d : D} (h : Rep C W H v (.dict [(.none, .int j), (.none, d)])) : ∃ (a dd : Addr) (c : Nat) (u : V), v = .ref a ∧ j = (c : Int) ∧ H a = some (XO a (.ref (C.cl c)) (some dd)) ∧ H dd = some (.xd [(C.fld c, u)]) ∧ Rep C W H u d := by
  generalize hd : PyData.dict [(.none, .int j), (.none, d)] = z at h
  cases h with
  | @exc1 a dd c u d' h1 h2 h3 =>
    have e : j = (c : Int) ∧ d = d' := by simpa using hd
    obtain ⟨rfl, rfl⟩ := e
    exact ⟨a, dd, c, u, rfl, rfl, h1, h2, h3⟩
  | _ => first | cases hd | (simp at hd)
theorem pd_fldE {c : Nat} {n : Str} {e : Expr} {pos : Pos} (T : XfC X.K (C.cl c)) (hno : PySem.W.findIn X.K (.ref (C.cl c)) n = some none) (hf : C.fld c = n) (he : PE X e (tD C W G ga)) (hb : attributeBase e n X.env (eval e X.env) = eval e X.env := by rfl) : PE X (.Attribute e n pos) (tD C W G (gFldE c ga)) :=
  PE.imp (pe_xg T hno he hb) fun σ H Q ⟨δ, E, p⟩ => by
    refine ⟨δ, E, (Post.bind p).imp fun x δ1 H1 E1 X1 p1 v rv _ => ?_⟩
    obtain ⟨d0, fr⟩ := x
    dsimp only at p1 rv
    split at p1
    · rename_i j d
      split at p1
      · rename_i hj
        obtain ⟨a, dd, c', u, rfl, ej, h1, h2, h3⟩ := exc1_inv rv
        have : c' = c := by omega
        subst this
        exact ⟨a, dd, _, u, rfl, h1, h2, by rw [hf]; simp [List.lookup], p1 H1 E1 Ext.refl u h3 fun z => nomatch z⟩
      · exact p1.elim
    · exact p1.elim

def dIsiF (js : List Nat) (ks : List Int) : List D → Option (D × Bool)
  | [.dict [(.none, .int j), (.none, _)], .dict [(.bool false, .int k)]] => if 0 ≤ j ∧ j.toNat ∈ js ∧ k ∈ ks then (tabE j.toNat k).map fun b => (.bool b, false) else none
  | xs => dIsiE js ks xs
def rIsY (K : PySem.W.Frag) (cl : Nat → Addr) : List V → Hp → VK → Prop := fun xs H Q => ∃ (a dd : Addr) (j : Nat) (fs : List (Str × V)) (c : V) (cv : Value) (b : Bool), xs = [.ref a, c] ∧ H a = some (XO a (.ref (cl j)) (some dd)) ∧ H dd = some (.xd fs) ∧ ExcC K (cl j) ∧ (∀ u, RelV c u → u = cv) ∧ PySem.W.kitOne K (.ref (cl j)) cv = some b ∧ Q (.bl b) H
def rIsF2 (K : PySem.W.Frag) (cl : Nat → Addr) : List V → Hp → VK → Prop := fun xs H Q => rIsY K cl xs H Q ∨ rIsE2 K cl xs H Q
theorem call_isY {X : Cx} {cl : Nat → Addr} : CallR X (.builtin "isinstance") (rIsF2 X.K cl) := by
  intro pins s σ H xs us Q I r h
  rcases h with ⟨a, dd, j, fs, c, cv, b, rfl, hx, hd, T, hcv, e, q⟩ | h
  · obtain ⟨u1, u2, rfl, r1, r2⟩ := vals2 r
    cases (show u1 = Value.ref a from r1)
    have ec := hcv _ r2
    subst ec
    obtain ⟨o, od, mA, J, _, _⟩ := inst_xd I hx hd
    obtain ⟨cd, hc, _⟩ := PySem.W.any_some T.hd
    exact PySem.W.kia_one (PySem.W.kitx_exc (by rw [hc]; rfl) T.hg T.hk T.hs T.ha T.hn T.ht T.hm) I.kIn J e (fun z => nomatch z) fun tk => ⟨.bl b, H, I.kept (t' := tk) fun _ _ z => z, rfl, q⟩
  · exact call_isX pins s σ H xs us Q I r h
theorem cd_isiF {C : Ct} {js : List Nat} {ks : List Int} (F : EF C.K C.cl js ks) : CallD C (rIsF2 C.K C.cl) (dIsiF js ks) := fun G δ σ H xs ds p Q E r e q => by
  unfold dIsiF at e
  split at e
  · rename_i j d k
    obtain ⟨v, w, rfl, rv, rw_⟩ := r.two_inv
    split at e
    · rename_i c
      obtain ⟨b, hb, rfl⟩ := opt_map e
      obtain ⟨a, dd, jj, u, rfl, rfl, h1, h2, h3⟩ := exc1_inv rv
      rw [Int.toNat_natCast] at c hb
      exact .inl ⟨a, dd, jj, _, w, clv C.cl k, b, rfl, h1, h2, F.ec jj c.2.1, cls_rel rw_, F.ki jj c.2.1 k c.2.2 b hb, atom E q (.bl _)⟩
    · cases e
  · exact .inr (cd_isiE F G δ σ H xs _ p Q E r e q)
end
def dNotInS : DOp
  | .str x, .str z => match x.cps.toList with
    | [c] => some (.bool (!decide (c ∈ z.cps.toList)), false)
    | _ => none
  | _, _ => none
theorem od_notInS {C : Ct} : OpD C (fun x y H Q => ∃ (c : Nat) (z : Str), x = .str ⟨#[c]⟩ ∧ y = .str z ∧ Q (.bl (!decide (c ∈ z.cps.toList))) H) dNotInS := fun G δ σ H x y v w p Q E rx ry e q => by
  unfold dNotInS at e
  split at e
  · rename_i a z
    split at e
    · rename_i c hc
      cases e
      cases rx
      cases ry
      refine ⟨c, z, ?_, rfl, atom E q (.bl _)⟩
      obtain ⟨xs⟩ := a
      congr 2
      exact Array.toList_inj.mp hc
    · cases e
  · cases e
end DL

namespace DL
open PySem PySem.Spec L2
open PyProof.Rows hiding St

def dTupOf : List D → Option (D × Bool)
  | [.list xs] => some (.tuple xs, false)
  | _ => none
theorem cd_tupOf {C : Ct} : CallD C (fun xs H Q => ∃ p ys, xs = [.ref p] ∧ ((SqL C.K H p ys ∧ ∀ l, H l = none → Q (.ref l) (upd H l (.tup ys))) ∨ (SqT C.K H p ys ∧ Q (.ref p) H))) dTupOf := fun G δ σ H xs ds p Q E r e q => by
  unfold dTupOf at e
  split at e
  · rename_i es
    cases e
    obtain ⟨v, rfl, rv⟩ := r.one_inv
    cases rv with
    | lst n h rl => exact ⟨_, _, rfl, .inl ⟨SqL.of h, fun l hl => newt E q rl hl⟩⟩
  · cases e
def curlyS : Str := ⟨#[123, 125]⟩
def dReprE : List D → Option (D × Bool)
  | [.dict []] => some (.str curlyS, false)
  | xs => dRepr xs
def rReprE (K : PySem.W.Frag) : List V → Hp → VK → Prop := fun xs H Q => (∃ a, xs = [.ref a] ∧ H a = some (.dK []) ∧ Q (.str curlyS) H) ∨ rRepr K xs H Q
theorem call_reprE {X : Cx} (hG : X.A.guards = some []) (hu : X.A.units + 66 < cLine) : CallR X (.builtin "repr") (rReprE X.K) := by
  intro pins s σ H xs us Q I r h
  rcases h with ⟨a, rfl, hx, q⟩ | h
  · obtain ⟨u, rfl, ru⟩ := vals1 r
    obtain rfl : u = Value.ref a := ru
    obtain ⟨_, hs, vs, kv, o, es, ep, ho, hc, hd, _, hp, _⟩ := (show ObjOk X.prog X.w H s.heap a (.dK []) from I.hok a _ hx)
    cases kv
    have e0 : es = #[] := by
      have := hp.length
      exact Array.eq_empty_of_size_eq_zero (by simpa using this)
    subst e0
    have sh : (PyData.dict []).shown = curlyS := by decide +kernel
    have rd : Reads s.heap (.ref a) (.dict []) [a] := .dict (as := []) (bs := []) ho hc.1 hd .nil .nil
    exact PySem.repr_of_reads' rd (by decide +kernel) (fun _ z => by
      rw [List.mem_singleton] at z
      rw [← z] at hs
      simp at hs) hG (by show _ + (1 + 1) < _; omega) (fun _ _ z => z) (fun h' t tk hk => ⟨.str curlyS, H, I.kept hk, ⟨t, by rw [sh]⟩, q⟩) (by rw [sizeLine_eq]; decide +kernel)
  · exact call_reprD hG hu pins s σ H xs us Q I r h
theorem cd_reprE {C : Ct} : CallD C (rReprE C.K) dReprE := fun G δ σ H xs ds p Q E r e q => by
  unfold dReprE at e
  split at e
  · cases e
    obtain ⟨v, rfl, rv⟩ := r.one_inv
    cases rv with
    | dct n h => exact .inl ⟨_, rfl, h, atom E q (.str _)⟩
  · exact .inr (cd_repr G δ σ H xs _ p Q E r e q)
end DL

namespace DL
open PySem PySem.Spec L2
open PyProof.Rows hiding St

/-- an error that is made is known from then on -/
theorem pe_mk {X : Cx} {e : Expr} {t : St → Hp → XK → Prop} (h : PMk X e t) : PE X e (fun σ H Q => t σ H fun cls d H1 => ∀ a, H1 a = none → Q (.ref a) (upd H1 a (XO a cls d))) := by
  refine ⟨fun pins s σ H Q I w => ?_⟩
  refine wpAny_mono (h pins s σ H _ I w) (fun u s1 hu => ?_) fun _ _ z => z
  obtain ⟨a, oe, vs, sI, H', cls, d, rfl, J, k, hne, ha, hz, hd, h1, na, os, ag, r, q⟩ := hu
  have ne : ∀ {b : Addr} {o : Obj}, sI.heap.get? b = some o → b ≠ a := fun {b o} z e => by rw [e, hne] at z; cases z
  have nh : ∀ {b : Addr} {o : HO}, H' b = some o → b ≠ a := fun {b o} z e => by rw [e, na] at z; cases z
  have U : Un (frs X.stack) [] H' (upd H' a (XO a cls d)) sI.heap s1.heap := {
    keep := fun b o z _ _ _ => k b o z
    slot := fun b o z _ _ _ => ⟨o.slots, k b o z⟩
    free := fun b o z n _ => by rw [upd_ne (ne z)]; exact n
    there := fun b o z _ => ⟨o, k b o z⟩
    tups := fun b xs z => by rw [upd_ne (nh z)]; exact z
    frzs := fun b o v z => by rw [upd_ne (nh z)]; exact z
    tbls := fun b ps z => ⟨#[], by rw [upd_ne (nh z), z]; simp⟩ }
  have hok : HOk X.prog X.w (upd H' a (XO a cls d)) s1.heap := fun b o z => by
    by_cases hb : b = a
    · subst hb
      rw [upd_same] at z
      cases z
      exact ⟨⟨oe, vs, ha, hz.1, hz.2, hd⟩, ⟨oe, ha⟩, fun g1 g2 ⟨o', vs', q1, q2⟩ kk => ⟨o', vs', kk o' q1, q2⟩⟩
    · rw [upd_ne hb] at z
      exact (J.hok b o z).stay (fun c v _ y => k c v y) (fun c hc => by rw [upd_ne (nh hc)]; exact hc) fun c xs hc => by rw [upd_ne (nh hc)]; exact hc
  exact ⟨.ref a, _, J.call' (ch := []) os U hok ag (fun b z => absurd z (by simp)), rfl, q a na⟩
section
variable {C : Ct} {W : WX} {G : Gh} {X : Cx} {ga : Sl → EV}
/-- C("..") -/
theorem pd_mkS {x m : Str} {j c : Nat} {p p2 pos : Pos} (q : PySem.W.excIn X.K (C.cl c) [.type "ValueError", .type "Exception", .type "BaseException", .type "object"] "ValueError.__new__" = true) (gcl : X.mg x = some (.ref (C.cl c))) (kC : PySem.W.keepIn X.K (.ref (C.cl c)) = true)
    (h1 : PySem.W.subIn X.K (.ref (C.cl c)) (.type "BaseException") = some true) (h2 : PySem.W.typeIn X.K (.ref (C.cl c)) = some (.type "type")) (hg : Gl X x) (hdb : (x == ("__debug__" : Str)) = false := by decide) :
    PE X (.Call (.Name x p) [.Constant (.str m) j p2] [] pos) (tD C W G (gC (.dict [(.none, .int (c : Int))]))) :=
  PE.imp (pe_mk (pmk_own PySem.F.excBase_ValueError q gcl kC (raises_own h1 h2) hg hdb)) fun σ H Q ⟨δ, E, p⟩ a na => by
    have Xg : Ext δ σ H δ σ (upd H a (XO a (.ref (C.cl c)) none)) := Ext.grow na
    exact p _ (E.grow na fun ys z => by cases z).less Xg _ (.exc0 upd_same) fun z => nomatch z
/-- C(e), C with an own __init__ -/
def gMkF (c : Nat) (ga : Sl → EV) : Sl → EV := fun δ => (ga δ).bind fun p δ1 => .ok (.dict [(.none, .int (c : Int)), (.none, p.1)], false) δ1
theorem pd_mkF {x : Str} {e : Expr} {c : Nat} {fI : Addr} {fd : FuncData} {p pos : Pos} (F1 : FnOk X.prog X.w X.K X.mg X.base (L2.CX X.prog X.w) 1 fI fd ["self", C.fld c] (spInit X.K (C.fld c))) (R : ExI X.K (C.cl c) (C.fld c) fI fd) (hr : Room 2 X.A) (gC : X.mg x = some (.ref (C.cl c)))
    (he : PE X e (tD C W G ga)) (hg : Gl X x) (hdb : (x == ("__debug__" : Str)) = false := by decide) (h1 : starEach [e] X.env = (false, eval e X.env) :: starEach [] X.env := by rfl) (h2 : (backTo pos (starEach [] X.env)).any (·.1) = false := by rfl) :
    PE X (.Call (.Name x p) [e] [] pos) (tD C W G (gMkF c ga)) :=
  PE.imp (pe_mk (pmk_oex R.T R.iC R.tI F1 hr R.b .nil passL hg gC (pa_cons he pa_nil h1) hdb h1 h2)) fun σ H Q ⟨δ, E, p⟩ => by
    refine ⟨δ, E, (Post.bind p).imp fun x δ1 H1 E1 X1 p1 v rv _ => ?_⟩
    refine ⟨by simp, fun a na => ⟨a, C.cl c, v, rfl, R.T, R.nf, upd_same, fun dx nx ne => ⟨rfl, dx, [(C.fld c, v)], upd_same, by rw [upd_ne ne, upd_same], ?_, ?_⟩⟩⟩
    · rw [upd_ne ne] at nx; exact nx
    · rw [upd_ne ne] at nx
      rw [init_heap na ne]
      intro b nb
      have Xg : Ext δ1 σ H1 δ1 σ (upd H1 dx (.xd [(C.fld c, v)])) := Ext.grow nx
      have Eg := (E1.grow (o := .xd [(C.fld c, v)]) nx fun ys z => by cases z).less
      have Xh : Ext δ1 σ (upd H1 dx (.xd [(C.fld c, v)])) δ1 σ (upd (upd H1 dx (.xd [(C.fld c, v)])) b (XO b (.ref (C.cl c)) (some dx))) := Ext.grow nb
      have nd : dx ≠ b := fun z => by rw [← z, upd_same] at nb; cases nb
      exact p1 _ (Eg.grow nb fun ys z => by cases z).less (Xg.trans Xh) _ (.exc1 upd_same (by rw [upd_ne nd, upd_same]) (Xh.rep (Xg.rep rv))) fun z => nomatch z
end
end DL

namespace PySem
open MeetsSeq AutoSeq1
theorem dl_add_meets (l : Addr) (items : Array Value) (n : Nat) (sl : Array (Option Value)) (b : Addr) (items2 : Array Value) (n2 : Nat) (hc0 : items.size + items2.size ≤ sizeLine) :
    Meets (Builtin.«list.__add__» ⟨[.ref l, .ref b], []⟩) (fun _ R s => s.heap.get? l = some { cls := .type "list", dict := none, data := .seq items n, slots := sl } ∧ s.heap.get? b = some { cls := .type "list", dict := none, data := .seq items2 n2, slots := #[] } ∧ R (.ok (.ret (Value.ref s.heap.objs.size))) { s with heap := s.heap.push { cls := Value.type "list", data := Data.seq (items ++ items2) }, toks := s.toks }) :=
  .of_wp fun prog w A R s h => by obtain ⟨hp, g, d, tk, os⟩ := s; obtain ⟨hl, hb, h⟩ := h; have f1 := idx_int; have f2 := sub_tuple_tuple; have f3 := sub_list_list; have f4 := sub_tuple_list; have f5 := sub_list_tuple; wp_walk using wpAny_loadPart' hl, wpAny_loadPart' hb; exact ⟨_, rfl, h⟩
theorem dl_add_list {prog : Program} {w : World} {A : Around} {E : Value → Shared → Prop} {s : Shared} {l b : Addr} {items items2 : Array Value} {n n2 : Nat} {sl : Array (Option Value)} {Q : Value → Shared → Prop} (hl : s.heap.get? l = some { cls := .type "list", dict := none, data := .seq items n, slots := sl }) (hb : s.heap.get? b = some { cls := .type "list", dict := none, data := .seq items2 n2, slots := #[] })
    (h : Q (.ref s.heap.objs.size) { s with heap := s.heap.push { cls := .type "list", data := .seq (items ++ items2) } }) (hsz : items.size + items2.size ≤ sizeLine) : wpAny (model prog w) A (binaryOp .Add (.ref l) (.ref b)) Q E s :=
  concat_meets ⟨_, hl, rfl⟩ ⟨_, hb, rfl⟩ noFill_list_add seq_list_add F.slot_list_add F.entry_list_add (F.args_list_add_2 _ _) (dl_add_meets l items n sl b items2 n2 hsz) ⟨hl, hb, h⟩
end PySem
namespace DL
open PySem PySem.Spec L2
open PyProof.Rows hiding St
def rCatS (K : PySem.W.Frag) : R2 := fun x y H Q => ∃ l b xs zs, x = .ref l ∧ y = .ref b ∧ SqL K H l xs ∧ H b = some (.lst zs) ∧ xs.length + zs.length ≤ sizeLine ∧ ∀ p, H p = none → Q (.ref p) (upd H p (.lst (xs ++ zs)))
theorem op_catS {X : Cx} : OpR X (binaryOp .Add) (rCatS X.K) := by
  intro pins s σ H x y v u Q I rx ry h
  obtain ⟨l, b, xs, zs, rfl, rfl, hH, hB, hz, q⟩ := h
  cases rx
  cases ry
  obtain ⟨its, r, ⟨o, n, e, hc, hd, hs⟩, z⟩ := I.list hH
  obtain ⟨oc, od, oda, osl⟩ := o
  dsimp only at hc hd hs
  subst hc hd hs
  obtain ⟨z2, its2, n2, r2, hl2, e2⟩ := I.lstM hB
  have hl := r.length
  refine PySem.dl_add_list e e2 ?_ (by rw [List.size_toArray, List.size_toArray]; omega)
  have ea : its.toArray ++ its2.toArray = (its ++ its2).toArray := by simp
  rw [ea]
  exact ⟨.ref _, _, I.lnew (t' := s.toks) (r.append r2) (by rw [List.length_append]; omega), rfl, q _ I.fresh⟩
def dAddS : DOp
  | .dict [(.bool true, .list xs)], .list ys => if xs.length + ys.length ≤ LINE then some (.list (xs ++ ys), true) else none
  | x, y => dAdd x y
theorem op_addSc {X : Cx} : OpR X (binaryOp .Add) (fun x y H Q => rCatS X.K x y H Q ∨ rAddA x y H Q) := OpR.or op_catS op_addA
theorem scr_inv {C : Ct} {W : Addr → Prop} {H : Hp} {v : V} {xs : List D} (h : Rep C W H v (.dict [(.bool true, .list xs)])) : ∃ a ys, v = .ref a ∧ SqL C.K H a ys ∧ RepL C W H ys xs := by
  generalize hd : PyData.dict [(.bool true, .list xs)] = z at h
  cases h with
  | @scr a ys ds h r =>
    have e : xs = ds := by simpa using hd
    subst e
    exact ⟨_, _, rfl, h.sq, r⟩
  | _ => first | cases hd | (simp at hd)
theorem od_addSc {C : Ct} : OpD C (fun x y H Q => rCatS C.K x y H Q ∨ rAddA x y H Q) dAddS := fun G δ σ H x y v w p Q E rx ry e q => by
  unfold dAddS at e
  split at e
  · split at e
    · rename_i hl
      cases e
      obtain ⟨a, ys, rfl, hs, r1⟩ := scr_inv rx
      cases ry with
      | lst n2 h2 r2 =>
        have hz := hl
        rw [line_eq, ← r1.length, ← r2.length] at hz
        exact .inl ⟨_, _, _, _, rfl, rfl, hs, h2, hz, fun p hp => newl E q (r1.append r2) (by rw [List.length_append]; exact hz) hp⟩
    · cases e
  · exact .inr (od_add G δ σ H x y _ _ p Q E rx ry e q)
end DL

namespace DL
open PySem PySem.Spec L2
open PyProof.Rows hiding St

mutual
def flE : D → Bool
  | .none => true
  | .bool _ => true
  | .int _ => true
  | .str _ => true
  | .tuple xs => flA xs
  | .dict [] => true
  | _ => false
def flA : List D → Bool
  | [] => true
  | d :: r => flE d && flA r
end
mutual
inductive Flt (K : PySem.W.Frag) (H : Hp) : V → D → Prop
  | non : Flt K H .non .none
  | bl (b : Bool) : Flt K H (.bl b) (.bool b)
  | int (i : Int) : Flt K H (.int i) (.int i)
  | str (x : Str) : Flt K H (.str x) (.str x)
  | tup {a : Addr} {xs : List V} {ds : List D} : SqT K H a xs → FltA K H xs ds → Flt K H (.ref a) (.tuple ds)
  | dct {a : Addr} : H a = some (.dK []) → Flt K H (.ref a) (.dict [])
inductive FltA (K : PySem.W.Frag) (H : Hp) : List V → List D → Prop
  | nil : FltA K H [] []
  | cons {v : V} {vs : List V} {d : D} {ds : List D} : Flt K H v d → FltA K H vs ds → FltA K H (v :: vs) (d :: ds)
end
section
variable {C : Ct} {W : Addr → Prop} {H : Hp}
mutual
theorem Rep.fl : ∀ {v : V} {d : D}, Rep C W H v d → flE d = true → Flt C.K H v d
  | _, _, .non, _ => .non
  | _, _, .bl b, _ => .bl b
  | _, _, .int i, _ => .int i
  | _, _, .str x, _ => .str x
  | _, _, .lst _ _ _, z => by simp [flE] at z
  | _, _, .scr _ _, z => by simp [flE] at z
  | _, _, .tup h t, z => .tup h (RepL.fl t (by simpa [flE] using z))
  | _, _, .tyb _, z => by simp [flE] at z
  | _, _, .tyo, z => by simp [flE] at z
  | _, _, .dct _ h, _ => .dct h
  | _, _, .dki _ _, z => by simp [flE] at z
  | _, _, .exc0 _, z => by simp [flE] at z
  | _, _, .exc1 _ _ _, z => by simp [flE] at z
theorem RepL.fl : ∀ {vs : List V} {ds : List D}, RepL C W H vs ds → flA ds = true → FltA C.K H vs ds
  | _, _, .nil, _ => .nil
  | _, _, .cons r t, z => by
    rw [flA, Bool.and_eq_true] at z
    exact .cons (Rep.fl r z.1) (RepL.fl t z.2)
end
end
section
variable {X : Cx} {pins : List (Addr × Obj)} {σ : St} {H : Hp} {s : Shared}
theorem dct_reads {a : Addr} (I : Inv X pins σ H s) (hx : H a = some (.dK [])) : Reads s.heap (.ref a) (.dict []) [a] ∧ sysModules ∉ [a] := by
  obtain ⟨_, hs, vs, kv, o, es, ep, ho, hc, hd, _, hp, _⟩ := (show ObjOk X.prog X.w H s.heap a (.dK []) from I.hok a _ hx)
  cases kv
  have e0 : es = #[] := by
    have := hp.length
    exact Array.eq_empty_of_size_eq_zero (by simpa using this)
  subst e0
  refine ⟨.dict (as := []) (bs := []) ho hc.1 hd .nil .nil, fun z => ?_⟩
  rw [List.mem_singleton] at z
  rw [← z] at hs
  simp at hs
mutual
theorem Flt.reads (I : Inv X pins σ H s) : ∀ (d : D) (v : V) (u : Value), Flt X.K H v d → RelV v u → ∃ as, Reads s.heap u d as ∧ sysModules ∉ as
  | .none, _, _, h, r => by
    cases h
    cases r
    exact ⟨_, Reads.none, by simp⟩
  | .bool b, _, _, h, r => by
    cases h
    cases r
    exact ⟨_, Reads.bool b, by simp⟩
  | .int i, _, _, h, r => by
    cases h
    obtain ⟨t, rfl⟩ := r
    exact ⟨_, Reads.int i t, by simp⟩
  | .str x, _, _, h, r => by
    cases h
    obtain ⟨t, rfl⟩ := r
    exact ⟨_, Reads.str x t, by simp⟩
  | .list ds, _, _, h, _ => by cases h
  | .tuple ds, _, _, h, r => by
    cases h with
    | tup hs ha =>
      cases r
      obtain ⟨its, rv, ⟨o, ho, hc, n, hd⟩, _⟩ := I.tuple hs
      obtain ⟨as, hr, hn⟩ := Flt.readsAll I ds _ its ha rv
      exact ⟨_, Reads.tuple ho hc hd hr, hn⟩
  | .dict kvs, _, _, h, r => by
    cases h with
    | dct hx =>
      cases r
      exact ⟨_, dct_reads I hx⟩
theorem Flt.readsAll (I : Inv X pins σ H s) : ∀ (ds : List D) (vs : List V) (us : List Value), FltA X.K H vs ds → Vals vs us → ∃ as, ReadsAll s.heap us ds as ∧ sysModules ∉ as
  | [], _, _, h, r => by
    cases h
    cases r
    exact ⟨_, ReadsAll.nil, by simp⟩
  | d :: ds, _, _, h, r => by
    cases h with
    | cons h1 h2 =>
      cases r with
      | cons r1 r2 =>
        obtain ⟨as, q1, n1⟩ := Flt.reads I d _ _ h1 r1
        obtain ⟨bs, q2, n2⟩ := Flt.readsAll I ds _ _ h2 r2
        exact ⟨_, .cons q1 q2, fun z => (List.mem_append.mp z).elim n1 n2⟩
end
end
theorem dl_shows {prog : Program} {w : World} {h₀ : Heap} {a : Addr} {xs : List D} {o : Obj} {vs : Array Value} {n : Nat} {bs₀ : List Addr} (h1 : h₀.get? a = some o) (h2 : o.cls = .type "list") (h3 : o.data = .seq vs n) (h4 : ReadsAll h₀ vs.toList xs bs₀) (hs : PyData.showableAll xs = true) (hsm : sysModules ∉ bs₀)
    (hsz : (PyData.list xs).shown.length ≤ sizeLine) : ∃ T idr, ShowsBy prog w h₀ a (.list xs) T idr := by
  have hz' : (listText (PyData.shownAll xs)).length ≤ sizeLine := by simpa only [PyData.shown] using hsz
  obtain ⟨bs, hb, hk⟩ := ReprAllK.of_readsAll (prog := prog) (w := w) h4 hs (fun _ => hsm) (fun t ht => Nat.le_trans (listText_mem_le ht) hz')
  have hna : a ∉ bs := not_mem_of_deeper (.list h1 h2 h3 h4) (by simp only [PyData.depth]; omega) hb
  refine ⟨"list", "list.__repr__", F.slot_list_repr.toG, F.slot_list_str, F.slot_list_format, fun s hk0 => ⟨o, hk0 _ _ h1, h2⟩, fun A E s Q hg hu hk0 hQ => ?_⟩
  simp only [PyData.depth] at hu
  simp only [PyData.shown] at hQ
  obtain ⟨l⟩ := vs
  cases l with
  | nil =>
    have h4' : ReadsAll h₀ [] xs _ := h4
    cases h4'
    simp only [PyData.shownAll, listText_nil] at hQ
    exact call_list_repr_empty ⟨o, hk0 _ _ h1, h2⟩ (hk0 _ _ h1) h3 (hQ s.heap _ _ fun _ _ e => e)
  | cons x l =>
    exact call_list_reprK h1 h2 h3 hna (by simpa using hk.length_eq) (fun i y e => hk.item i y (by simpa using e)) hg (fun b _ => Clear.nil b) hu hk0 hQ hz'
def dReprG : List D → Option (D × Bool)
  | [.dict []] => some (.str curlyS, false)
  | [.list ds] => if (flA ds && PyData.showableAll ds && decide ((PyData.list ds).depth ≤ 64) && decide ((PyData.list ds).shown.length ≤ LINE)) = true then some (.str (PyData.list ds).shown, false) else dRepr [.list ds]
  | xs => dRepr xs
def rReprG (K : PySem.W.Frag) : List V → Hp → VK → Prop := fun xs H Q => (∃ a ys ds, xs = [.ref a] ∧ SqL K H a ys ∧ FltA K H ys ds ∧ PyData.showableAll ds = true ∧ (PyData.list ds).depth ≤ 64 ∧ (PyData.list ds).shown.length ≤ sizeLine ∧ Q (.str (PyData.list ds).shown) H) ∨ rReprE K xs H Q
theorem call_reprG {X : Cx} (hG : X.A.guards = some []) (hu : X.A.units + 66 < cLine) : CallR X (.builtin "repr") (rReprG X.K) := by
  intro pins s σ H xs us Q I r h
  rcases h with ⟨a, ys, ds, rfl, hs, hf, h1, h2, h3, q⟩ | h
  · obtain ⟨u, rfl, ru⟩ := vals1 r
    obtain rfl : u = Value.ref a := ru
    obtain ⟨its, rv, ⟨o, n, ho, hc, _, hd⟩, _⟩ := I.list hs
    obtain ⟨as, hr, hn⟩ := Flt.readsAll I ds _ its hf rv
    obtain ⟨T, idr, S⟩ := dl_shows (prog := X.prog) (w := X.w) (vs := its.toArray) ho hc hd hr h1 hn h3
    exact call_repr_slot (by omega) (S.typeIs s fun _ _ z => z) S.slotRepr (S.call X.A.in1 _ s _ hG (by show X.A.units + 1 + _ < cLine; omega) (fun _ _ z => z) fun h' u tk hk => ⟨_, _, rfl, ⟨.str (PyData.list ds).shown, H, I.kept hk, ⟨_, rfl⟩, q⟩⟩)
  · exact call_reprE hG hu pins s σ H xs us Q I r h
theorem cd_reprG {C : Ct} : CallD C (rReprG C.K) dReprG := fun G δ σ H xs ds p Q E r e q => by
  unfold dReprG at e
  split at e
  · exact .inr (cd_reprE G δ σ H xs _ p Q E r e q)
  · rename_i es
    split at e
    · rename_i c
      cases e
      simp only [Bool.and_eq_true, decide_eq_true_eq] at c
      obtain ⟨⟨⟨c1, c2⟩, c3⟩, c4⟩ := c
      obtain ⟨v, rfl, rv⟩ := r.one_inv
      cases rv with
      | lst n h rl => exact .inl ⟨_, _, _, rfl, SqL.of h, RepL.fl rl c1, c2, c3, by rw [← line_eq]; exact c4, atom E q (.str _)⟩
    · exact .inr (.inr (cd_repr G δ σ H xs _ p Q E r e q))
  · exact .inr (.inr (cd_repr G δ σ H xs _ p Q E r e q))
end DL

namespace DL
open PySem PySem.Spec L2
open PyProof.Rows hiding St

/-- f([..], a, b), f's first parameter is changed -/
def gDefF (f : List D → R (List D) (D × Bool)) (n : Nat) (ga : Sl → EV) (gr : Sl → R Sl (List D)) : Sl → EV := fun δ => (ga δ).bind fun x δ1 => if x.2 then (gr δ1).bind fun ds δ2 => if ds.length + 1 = n then match f (x.1 :: ds) with
    | .ok p _ => .ok (p.1, false) δ2
    | .exc c xs _ => .exc c xs δ2
    | .stk => .stk
  else .stk
  else .stk
section
variable {C : Ct} {W : WX} {G : Gh} {δ δ1 : Sl} {σ : St} {H H1 H' : Hp} {X : Cx} {n : Nat} {f : List PyData → R (List PyData) (PyData × Bool)} {Q : VK} {ga : Sl → EV} {gr : Sl → R Sl (List D)}
def tAx (C : Ct) (W : WX) (io : List Nat) (gr : Sl → R Sl (List D)) : TA := fun σ H Q => ∃ G' : Gh, G'.io = io ∧ tA C W G' gr σ H Q
theorem pd_callF {k : Nat} {fa : Addr} {fd : FuncData} {ps : List Str} {x : Str} {p pos : Pos} {e : Expr} {es : List Expr} (F : FnG X.prog X.w X.K X.mg X.base (L2.CX X.prog X.w) k fa fd ps (spD C [0] n f)) (tk : Takes X W) (hG : X.A.guards = some []) (hr : Room k X.A) (hg : Gl X x) (hm : X.mg x = some (.ref fa)) (hk : PySem.W.keepIn X.K (.ref fa) = true) (hb : Binds X.K fd ps [])
    (ha : PE X e (tD C W G ga)) (hes : ∀ G' : Gh, G'.io = G.io → PA X es (tA C W G' gr)) (hs : starEach (e :: es) X.env = (false, eval e X.env) :: starEach es X.env := by rfl) (hdb : (x == ("__debug__" : Str)) = false := by decide) (he : starEach (e :: es) X.env = (false, eval e X.env) :: starEach es X.env := by rfl) (hpl : (backTo pos (starEach es X.env)).any (·.1) = false := by rfl) :
    PE X (.Call (.Name x p) (e :: es) [] pos) (tD C W G (gDefF f n ga gr)) :=
  PE.imp (pe_callG F hG hr hg hm hk hb (fun σ => passAt tk σ) (pa_cons ha (t := tAx C W G.io gr) ⟨fun pos pins s σ H Q I ⟨G', e, h⟩ => (hes G' e).run pos pins s σ H Q I h⟩ hs) hdb he hpl) fun σ H Q ⟨δ, E, p⟩ => by
  refine ⟨δ, E, ?_⟩
  unfold gDefF at p
  cases qa : ga δ with
  | stk => rw [qa] at p; exact p
  | exc c ys δ1 => rw [qa] at p; exact p
  | ok x δ1 =>
    rw [qa] at p
    intro H1 E1 X1 v rv fr
    have p1 : Post C W G δ σ H (kE C G δ σ H Q) (if x.2 then (gr δ1).bind fun ds δ2 => if ds.length + 1 = n then match f (x.1 :: ds) with
      | .ok p _ => .ok (p.1, false) δ2
      | .exc c xs _ => .exc c xs δ2
      | .stk => .stk
      else .stk
      else .stk) := p
    split at p1
    case isFalse => exact (show False from p1).elim
    case isTrue hx =>
    obtain ⟨⟨a, xs, es, hv, ed, nold, nF, ha1, rl, Ea⟩, old⟩ := fr hx
    have old1 := old a hv
    subst hv
    obtain ⟨xd, xb⟩ := x
    dsimp only at ed hx
    subst ed
    refine ⟨G.plus a, rfl, δ1, Ea, ?_⟩
    have plusw : ∀ δ' b, WW G δ' σ b → WW (G.plus a) δ' σ b := fun δ' b z => z.elim (fun q => .inl (.inl q)) .inr
    have nown : ∀ {δ' H'}, ERel C (G.plus a) δ' σ H' → ¬ Own δ' σ a := fun {δ' H'} E' ⟨i, d, h1, h2⟩ => by
      obtain ⟨b, _, _, e1, _, _, _, n, _⟩ := E'.ow i d h1
      rw [h2] at e1; cases e1
      exact n (.inr rfl)
    cases q : gr δ1 with
    | stk => rw [q] at p1; exact (show False from p1).elim
    | exc c ys δ2 =>
      rw [q] at p1
      intro cls dct H2 E2 X2 ev
      exact p1 cls dct H2 E2.less (X1.trans X2) ⟨ev.1, ev.2.imp id fun ⟨dd, v, d, h1, h2, h3, h4⟩ => ⟨dd, v, d, h1, h2, h3, h4.weak (plusw δ2)⟩⟩
    | ok ds δ2 =>
      rw [q] at p1
      intro H2 E2 X2 vs rs
      have p2 : Post C W G δ σ H (kE C G δ σ H Q) (if ds.length + 1 = n then match f (.list es :: ds) with
        | .ok p _ => .ok (p.1, false) δ2
        | .exc c xs _ => .exc c xs δ2
        | .stk => .stk
        else .stk) := p1
      split at p2
      case isFalse => exact (show False from p2).elim
      case isTrue hn =>
      have ha2 : H2 a = some (.lst xs) := X2.kp a _ ha1 fun z => absurd z (nown Ea)
      have rl2 : RepL C (WW (G.plus a) δ2 σ) H2 xs es := X2.repL rl
      have ioa : ∀ b, IoA [0] (.ref a :: vs) b ↔ b = a := fun b => by
        constructor
        · rintro ⟨i, hi, hv⟩
          cases List.mem_singleton.mp hi
          cases hv
          rfl
        · intro e
          exact ⟨0, List.mem_singleton.mpr rfl, by rw [e]; rfl⟩
      have wc : ∀ b, WC (WW G δ2 σ) [0] (.ref a :: vs) b ↔ WW (G.plus a) δ2 σ b := fun b => by
        constructor
        · rintro (z | z)
          · exact plusw δ2 b z
          · exact .inl (.inr ((ioa b).mp z))
        · rintro ((z | z) | z)
          · exact .inl (.inl z)
          · exact .inr ((ioa b).mpr z)
          · exact .inl (.inr z)
      have I : InR C (WW G δ2 σ) [0] (.ref a :: vs) (.list es :: ds) H2 := by
        refine ⟨by rw [List.length_cons, List.length_cons, rs.length], fun i v d hi hv hd => ?_, fun i v d hi hv hd => ?_, fun i j b hi hj _ _ => by rw [List.mem_singleton.mp hi, List.mem_singleton.mp hj], fun b z => E2.wwH (plusw δ2 b z), E2.sz⟩
        · cases i with
          | zero => exact absurd (List.mem_singleton.mpr rfl) hi
          | succ i =>
            obtain ⟨v', h1, h2⟩ := RepL.get rs (i := i) (d := d) (by simpa using hd)
            have h3 : vs[i]? = some v := by simpa using hv
            rw [h3] at h1; cases h1
            exact h2.weak fun b z => (wc b).mp z
        · cases List.mem_singleton.mp hi
          cases hv; cases hd
          refine ⟨a, xs, es, rfl, rfl, ha2, rl2.weak fun b z => (wc b).mp z, fun z => ?_⟩
          rcases z with z | z
          · exact nF z
          · exact nown E2 z
      refine ⟨_, _, by rw [List.length_cons, rs.length, hn], I, ?_⟩
      -- behind the call
      have aft : ∀ {H3 : Hp} {outs : List D}, Aft C (WW G δ2 σ) [0] (.ref a :: vs) H2 H3 outs → ERel C G δ2 σ H3 ∧ Ext δ σ H δ2 σ H3 := fun {H3 outs} af => by
        have kp : Kept (fun b => b = a) H2 H3 := fun b o h z => af.kp b o h fun y => z ((ioa b).mp y)
        have mv : ∀ {v d}, Rep C (WW (G.plus a) δ2 σ) H2 v d → Rep C (WW G δ2 σ) H3 v d := fun r => (r.move kp (fun b z => .inl (.inr z)) fun b z => .inl z).weak (plusw δ2)
        have mvL : ∀ {v d}, RepL C (WW (G.plus a) δ2 σ) H2 v d → RepL C (WW G δ2 σ) H3 v d := fun r => (r.move kp (fun b z => .inl (.inr z)) fun b z => .inl z).weak (plusw δ2)
        have X12 := X1.trans X2
        refine ⟨⟨E2.len, fun i d e => ?_, fun i d e => ?_, E2.inj, fun b z => af.th b (E2.fl b (.inl z)), fun b z => af.th b (E2.ol b z), af.sz⟩, ⟨fun b o h z => ?_, fun b z => af.th b (X12.th b z), X12.own⟩⟩
        · obtain ⟨v, r1, r2⟩ := E2.sh i d e
          exact ⟨v, r1, mv r2⟩
        · obtain ⟨b, ys, fs, g1, g2, g3, g4, g5, g6⟩ := E2.ow i d e
          exact ⟨b, ys, fs, g1, g2, af.kp b _ g3 (fun z => absurd ((ioa b).mp z) fun y => g5 (.inr y)), mvL g4, fun z => g5 (.inl z), g6⟩
        · have h2 := X12.kp b o h z
          refine af.kp b o h2 fun y => ?_
          cases (ioa b).mp y
          rcases old1 with old2 | old2
          · rw [h] at old2; cases old2
          · exact z old2
      cases qf : f (.list es :: ds) with
      | stk => rw [qf] at p2; exact (show False from p2).elim
      | ok r outs =>
        rw [qf] at p2
        intro v H3 af rv fr
        obtain ⟨E3, X3⟩ := aft af
        exact p2 H3 E3 X3 v (rv.weak fun b z => .inl z) fun z => nomatch z
      | exc c ys outs =>
        rw [qf] at p2
        intro cls dct H3 af ev
        obtain ⟨E3, X3⟩ := aft af
        exact p2 cls dct H3 E3 X3 ⟨ev.1, ev.2.imp id fun ⟨dd, v, d, h1, h2, h3, h4⟩ => ⟨dd, v, d, h1, h2, h3, h4.weak fun b z => .inl z⟩⟩
end
end DL
namespace DL
open PySem PySem.Spec L2
/-- a block within a block: the names that it takes from outside -/
theorem blk_ok {N : List Str} {sc scope : Scope} {own : List (Str × Nat)} (h1 : scope.kind = .function) (h2 : ∀ y ∈ scope.names, scope.names.lookup y.1 = some y.2) (h3 : ∀ p ∈ own, N[p.2]? = some p.1)
    (h4 : (scope.names.all fun y => match y.2 with
      | .free => match sc.names.lookup y.1 with
        | some .cell => true
        | some .free => true
        | _ => false
      | _ => true) = true) (h5 : ∀ y ∈ scope.names, y.2 = .local ∨ y.2 = .cell → y.1 ∈ own.map (·.1) ∨ y.1 ∉ N) : BlkOk N sc scope own := ⟨h1, h2, h3, (fun y hy hf => by
  have z := List.all_eq_true.mp h4 y hy
  rw [hf] at z
  dsimp only at z
  split at z
  · exact .inl (by assumption)
  · exact .inr (by assumption)
  · cases z), h5⟩
end DL

namespace DL
open PySem PySem.Spec L2
open PyProof.Rows hiding St

def retT : D × Bool → D × Bool → Sl → SV
  | (.int n, _), (.list ws, true), δ => .ok (.rt (.tuple [.int n, .list ws]) true) δ
  | _, _, _ => .stk
/-- return (number, new list) -/
def sRetT (ga gb : Sl → EV) : Sl → SV := fun δ => (ga δ).bind fun x δ1 => (gb δ1).bind fun y δ2 => retT x y δ2
/-- return f(..), a fresh pair as it is -/
def sRetC (f : List D → R (List D) (D × Bool)) (n : Nat) (gr : Sl → R Sl (List D)) : Sl → SV := fun δ => (gr δ).bind fun ds δ1 => if ds.length = n then match f ds with
    | .ok p _ => .ok (.rt p.1 p.2) δ1
    | .exc c xs _ => .exc c xs δ1
    | .stk => .stk
  else .stk
/-- a, b = f(..), a fresh pair -/
def sUnp (io : List Nat) (i j : Nat) (f : List D → R (List D) (D × Bool)) (n : Nat) (gr : Sl → R Sl (List D)) : Sl → SV := fun δ => (gr δ).bind fun ds δ1 => if ds.length = n then match f ds with
    | .ok (.tuple [.int m, .list ws], true) _ => if io.contains i || io.contains j || decide (δ1.length ≤ i) || decide (δ1.length ≤ j) || decide (i = j) then .stk else .ok .nx ((δ1.set i (some (false, .int m))).set j (some (true, .list ws)))
    | .exc c xs _ => .exc c xs δ1
    | _ => .stk
  else .stk
section
variable {C : Ct} {W : WX} {G : Gh} {δ δ1 : Sl} {σ : St} {H H1 H2 : Hp} {X : Cx} {n : Nat} {f : List PyData → R (List PyData) (PyData × Bool)} {Q : VK} {ga gb : Sl → EV} {gr : Sl → R Sl (List D)} {pos : Pos}
theorem psd_retT {e e2 : Expr} {x1} {p2 : Pos} (ha : PE X e (tD C W G ga)) (hb : PE X e2 (tD C W G gb)) (hs1 : starEach [e, e2] X.env = (false, eval e X.env) :: starEach [e2] X.env := by rfl) (hs2 : starEach [e2] X.env = (false, eval e2 X.env) :: starEach [] X.env := by rfl) :
    PS X (.Return (some (.Tuple [e, e2] x1 p2)) pos) (tS C W G (sRetT ga gb)) := PS.imp (ps_ret (pe_tup (pa_cons ha (pa_cons hb pa_nil hs2) hs1))) fun D σ H ⟨δ, E, p⟩ =>
  ⟨δ, E, (PostS.bindE p).imp fun x δ1 H1 E1 X1 p1 v rv _ => ⟨δ1, E1, (PostS.bindE p1).imp fun y δ2 H2 E2 X2 p2 w rw fw => by
    have p2 : PostS C W G δ2 σ H2 D (retT x y δ2) := p2
    show [v, w].length ≤ sizeLine ∧ ∀ q, H2 q = none → D.rt (.ref q) (upd H2 q (.tup [v, w]))
    obtain ⟨xd, xf⟩ := x
    obtain ⟨yd, yf⟩ := y
    cases xd <;> try exact (show False from p2).elim
    cases yd <;> try exact (show False from p2).elim
    cases yf <;> try exact (show False from p2).elim
    · rename_i m _ ws _
      have p2 : PostS C W G δ2 σ H2 D (.ok (.rt (.tuple [.int m, .list ws]) true) δ2) := p2
      cases rv
      obtain ⟨⟨a, xs, es, hw, e1, n1, n2, h1, r1, Ea⟩, _⟩ := fw rfl
      subst hw
      cases e1
      refine ⟨by rw [sizeLine_eq]; show 2 ≤ 16777216; decide, fun q hq => ?_⟩
      have X3 : Ext δ2 σ H2 δ2 σ (upd H2 q (.tup [.int m, .ref a])) := Ext.grow hq
      have E3 : ERel C G δ2 σ (upd H2 q (.tup [.int m, .ref a])) := (E2.grow hq fun ys e => by cases e).less
      have E4 : ERel C (G.plus a) δ2 σ (upd H2 q (.tup [.int m, .ref a])) := (Ea.grow hq fun ys e => by cases e).less
      have kp : Kept (fun _ => False) H2 (upd H2 q (.tup [.int m, .ref a])) := fun b u h _ => by rw [upd_ne (ne_of_none h hq)]; exact h
      refine p2 σ _ E3 X3 IoK.refl (.ref q) (.tup (.inl (.inl upd_same)) (.cons (.int m) (.cons (X3.rep rw) .nil))) fun _ => .inr ?_
      exact ⟨q, m, a, xs, ws, rfl, rfl, .inl (.inl upd_same), n1, n2, by rw [upd_ne (ne_of_none h1 hq)]; exact h1, r1.move (O := fun _ => False) kp (fun _ z => z.elim) fun b z => .inl z, E4⟩⟩⟩
/-- a call without changed arguments, seen from the caller -/
theorem call_p {vs : List V} {ds : List D} (E1 : ERel C G δ1 σ H1) (rs : RepL C (WW G δ1 σ) H1 vs ds) (hn : ds.length = n)
    (ok : ∀ p outs, f ds = .ok p outs → ∀ v H2, ERel C G δ1 σ H2 → Ext δ1 σ H1 δ1 σ H2 → Rep C (WW G δ1 σ) H2 v p.1 → (p.2 = true →
      (∃ a xs es, v = .ref a ∧ p.1 = .list es ∧ H1 a = none ∧ H2 a = some (.lst xs) ∧ RepL C (WW (G.plus a) δ1 σ) H2 xs es ∧ ERel C (G.plus a) δ1 σ H2) ∨
      (∃ t m a xs es, v = .ref t ∧ p.1 = .tuple [.int m, .list es] ∧ SqT C.K H2 t [.int m, .ref a] ∧ H1 a = none ∧ H2 a = some (.lst xs) ∧ RepL C (WW (G.plus a) δ1 σ) H2 xs es ∧ ERel C (G.plus a) δ1 σ H2)) → Q v H2)
    (exc : ∀ c xs outs, f ds = .exc c xs outs → ∀ cls dct H2, ERel C G δ1 σ H2 → Ext δ1 σ H1 δ1 σ H2 → ExcV C (WW G δ1 σ) H2 cls dct c xs → W cls dct σ H2) (stk : f ds ≠ .stk) : spD C [] n f vs H1 Q (WE W σ) := by
  have noio : ∀ b, ¬ IoA [] vs b := fun b ⟨i, hi, _⟩ => by cases hi
  have I : InR C (WW G δ1 σ) [] vs ds H1 := by
    refine ⟨rs.length, (fun i v d _ hv hd => ?_), (fun i _ _ hi => by cases hi), (fun i _ _ hi => by cases hi), (fun a z => E1.wwH z), E1.sz⟩
    obtain ⟨v', h1, h2⟩ := RepL.get rs hd
    rw [hv] at h1; cases h1
    exact h2.weak fun b z => z.elim id fun q => absurd q (noio b)
  refine ⟨ds, WW G δ1 σ, by rw [rs.length, hn], I, ?_⟩
  have aft : ∀ {H2 : Hp} {outs : List D}, Aft C (WW G δ1 σ) [] vs H1 H2 outs → ERel C G δ1 σ H2 ∧ Ext δ1 σ H1 δ1 σ H2 ∧ ∀ a, H1 a = none → H2 a ≠ none → ERel C (G.plus a) δ1 σ H2 := fun {H2 outs} af => by
    have kp : Kept (fun _ => False) H1 H2 := fun b o h _ => af.kp b o h fun y => absurd y (noio b)
    have mk : ∀ G' : Gh, G'.io = G.io → (∀ a, G'.Old a ↔ G.Old a) → (∀ a, G'.F a → G.F a ∨ H1 a = none) → (∀ a, G'.F a → H2 a ≠ none) → ERel C G' δ1 σ H2 := fun G' hio hold hF hF2 => by
      have mv : ∀ b, WW G' δ1 σ b → WW G δ1 σ b ∨ H1 b = none := fun b z => z.elim (fun q => (hF b q).imp .inl id) fun q => .inl (.inr q)
      refine ⟨E1.len, fun i d e => ?_, fun i d e => ?_, E1.inj, hF2, fun b z => af.th b (E1.ol b ((hold b).mp z)), af.sz⟩
      · obtain ⟨v, r1, r2⟩ := E1.sh i d e
        exact ⟨v, r1, r2.move kp (fun _ z => z.elim) mv⟩
      · obtain ⟨b, ys, es, g1, g2, g3, g4, g5, g6⟩ := E1.ow i d e
        refine ⟨b, ys, es, g1, g2, af.kp b _ g3 (fun z => absurd z (noio b)), g4.move kp (fun _ z => z.elim) mv, fun z => ?_, fun nn z => g6 (by rw [← hio]; exact nn) ((hold b).mp z)⟩
        rcases hF b z with z | z
        · exact g5 z
        · rw [g3] at z; cases z
    refine ⟨mk G rfl (fun _ => Iff.rfl) (fun _ z => .inl z) fun b z => af.th b (E1.fl b z), ⟨fun b o h _ => af.kp b o h fun y => absurd y (noio b), af.th, fun _ z => .inl z⟩, fun a ha ha2 => mk (G.plus a) rfl (fun _ => Iff.rfl) (fun b (z : G.F b ∨ b = a) => z.imp id fun e => by rw [e]; exact ha) fun b (z : G.F b ∨ b = a) => ?_⟩
    rcases z with z | z
    · exact af.th b (E1.fl b z)
    · rw [z]; exact ha2
  have wk : ∀ b, WC (WW G δ1 σ) [] vs b → WW G δ1 σ b := fun b z => z.elim id fun q => absurd q (noio b)
  have wk' : ∀ b, WW G δ1 σ b → WC (WW G δ1 σ) [] vs b := fun b z => .inl z
  have wa : ∀ a b, WW (G.plus a) δ1 σ b → WC (WW G δ1 σ) [] vs b ∨ b = a := fun a b z => by
    rcases z with (z | z) | z
    · exact .inl (.inl (.inl z))
    · exact .inr z
    · exact .inl (.inl (.inr z))
  cases q : f ds with
  | stk => exact absurd q stk
  | exc c xs outs =>
    intro cls dct H2 af ev
    obtain ⟨E2, X2, _⟩ := aft af
    exact exc c xs outs q cls dct H2 E2 X2 ⟨ev.1, ev.2.imp id fun ⟨dd, v, d, h1, h2, h3, h4⟩ => ⟨dd, v, d, h1, h2, h3, h4.weak wk'⟩⟩
  | ok p outs =>
    intro v H2 af rv fr
    obtain ⟨E2, X2, E3⟩ := aft af
    refine ok p outs q v H2 E2 X2 (rv.weak wk') fun z => ?_
    rcases fr z with ⟨a, xs, es, e1, e2, n1, h2, r1, _⟩ | ⟨t, m, a, xs, es, e1, e2, st, n1, h2, r1, _⟩
    · exact .inl ⟨a, xs, es, e1, e2, n1, h2, r1.weak (wa a), E3 a n1 (by rw [h2]; exact fun z => nomatch z)⟩
    · exact .inr ⟨t, m, a, xs, es, e1, e2, st, n1, h2, r1.weak (wa a), E3 a n1 (by rw [h2]; exact fun z => nomatch z)⟩
theorem psd_retC {k : Nat} {fa : Addr} {fd : FuncData} {ps : List Str} {x : Str} {p : Pos} {cpos : Pos} {e : Expr} {es : List Expr} (F : FnG X.prog X.w X.K X.mg X.base (L2.CX X.prog X.w) k fa fd ps (spD C [] n f)) (tk : Takes X W) (hG : X.A.guards = some []) (hr : Room k X.A) (hg : Gl X x) (hm : X.mg x = some (.ref fa)) (hk : PySem.W.keepIn X.K (.ref fa) = true) (hb : Binds X.K fd ps [])
    (ha : PA X (e :: es) (tA C W G gr)) (hdb : (x == ("__debug__" : Str)) = false := by decide) (he : starEach (e :: es) X.env = (false, eval e X.env) :: starEach es X.env := by rfl) (hpl : (backTo cpos (starEach es X.env)).any (·.1) = false := by rfl) :
    PS X (.Return (some (.Call (.Name x p) (e :: es) [] cpos)) pos) (tS C W G (sRetC f n gr)) := PS.imp (ps_ret (pe_callG F hG hr hg hm hk hb (fun σ => passAt tk σ) ha hdb he hpl)) fun D σ H ⟨δ, E, p⟩ => by
  refine ⟨δ, E, (PostS.bindT p).imp fun ds δ1 H1 E1 X1 p1 vs rs => ?_⟩
  split at p1
  · rename_i hn
    refine call_p E1 rs hn (fun p outs q v H2 E2 X2 rv fr => ?_) (fun c xs outs q cls dct H2 E2 X2 ev => ?_) fun q => ?_
    · rw [q] at p1
      refine p1 σ H2 E2 X2 IoK.refl v rv fun z => ?_
      rcases fr z with ⟨a, xs, es, e1, e2, n1, h2, r1, E3⟩ | ⟨t, m, a, xs, es, e1, e2, st, n1, h2, r1, E3⟩
      · exact .inl ⟨a, xs, es, e1, e2, fun z => E1.ol a z n1, fun z => E1.fl a z n1, h2, r1, E3⟩
      · exact .inr ⟨t, m, a, xs, es, e1, e2, st, fun z => E1.ol a z n1, fun z => E1.fl a z n1, h2, r1, E3⟩
    · rw [q] at p1
      exact p1 cls dct σ H2 E2 X2 IoK.refl ev
    · rw [q] at p1
      exact p1.elim
  · exact p1.elim
theorem psd_unp {k : Nat} {fa : Addr} {fd : FuncData} {ps : List Str} {x y1 y2 : Str} {i j : Nat} {p q1 q2 tp : Pos} {kk : Nat} {cpos : Pos} {e : Expr} {es : List Expr} (F : FnG X.prog X.w X.K X.mg X.base (L2.CX X.prog X.w) k fa fd ps (spD C [] n f)) (tk : Takes X W) (hG : X.A.guards = some []) (hr : Room k X.A) (hg : Gl X x) (hm : X.mg x = some (.ref fa)) (hk : PySem.W.keepIn X.K (.ref fa) = true) (hb : Binds X.K fd ps [])
    (ha : PA X (e :: es) (tA C W G gr)) (hc : X.calm = true) (h1 : PG X (.Name y1 q1) (gName i)) (h2 : PG X (.Name y2 q2) (gName j)) (hdb : (x == ("__debug__" : Str)) = false := by decide) (he : starEach (e :: es) X.env = (false, eval e X.env) :: starEach es X.env := by rfl) (hpl : (backTo cpos (starEach es X.env)).any (·.1) = false := by rfl)
    (ht1 : (assignEach [.Name y1 q1, .Name y2 q2] X.env).map (·.2) = assign (.Name y1 q1) X.env :: (assignEach [.Name y2 q2] X.env).map (·.2) := by rfl) (ht2 : (assignEach [.Name y2 q2] X.env).map (·.2) = assign (.Name y2 q2) X.env :: (assignEach [] X.env).map (·.2) := by rfl)
    (hn2 : (assignEach [.Name y1 q1, .Name y2 q2] X.env).length = 2 := by rfl) (hst : (assignEach [.Name y1 q1, .Name y2 q2] X.env).findIdx? (·.1) = none := by rfl) (hK : X.K = C.K := by rfl)
    (hs : swapsWithSole [.Tuple [.Name y1 q1, .Name y2 q2] kk tp] (.Call (.Name x p) (e :: es) [] cpos) pos.line X.env = pure false := by rfl) (hw : swappedStores [.Tuple [.Name y1 q1, .Name y2 q2] kk tp] (.Call (.Name x p) (e :: es) [] cpos) X.env = pure none := by rfl)
    (ht3 : (assignEach [.Tuple [.Name y1 q1, .Name y2 q2] kk tp] X.env).map (·.2) = [assign (.Tuple [.Name y1 q1, .Name y2 q2] kk tp) X.env] := by rfl) :
    PS X (.Assign [.Tuple [.Name y1 q1, .Name y2 q2] kk tp] (.Call (.Name x p) (e :: es) [] cpos) pos) (tS C W G (sUnp G.io i j f n gr)) := PS.imp (ps_asg (pe_callG F hG hr hg hm hk hb (fun σ => passAt tk σ) ha hdb he hpl) (pg_tup hc (pgs_cons h1 (pgs_cons h2 pgs_nil ht2) ht1) hn2 hst) hs hw ht3) fun D σ H ⟨δ, E, p⟩ => by
  refine ⟨δ, E, (PostS.bindT p).imp fun ds δ1 H1 E1 X1 p1 vs rs => ?_⟩
  split at p1
  case isFalse => exact p1.elim
  case isTrue hn =>
  refine call_p E1 rs hn (fun p outs q v H2 E2 X2 rv fr => ?_) (fun c xs outs q cls dct H2 E2 X2 ev => ?_) fun q => ?_
  · rw [q] at p1
    obtain ⟨d, b⟩ := p
    split at p1
    · rename_i m ws _ heq
      cases heq
      split at p1
      · exact p1.elim
      · rename_i hg
        simp only [Bool.or_eq_true, not_or, decide_eq_true_eq] at hg
        obtain ⟨⟨⟨⟨g1, g2⟩, g3⟩, g4⟩, g5⟩ := hg
        have g1 : i ∉ G.io := by simpa using g1
        have g2 : j ∉ G.io := by simpa using g2
        rcases fr rfl with ⟨a, xs, es, e1, e2, _⟩ | ⟨t, m', a, xs, es, e1, e2, st, n1, h2', r1, E3⟩
        · cases e2
        · cases e2
          subst e1
          rw [← hK] at st
          refine ⟨_, _, rfl, st, rfl, _, _, rfl, _, _, rfl, rfl, ?_⟩
          show D.nx ((σ.set i (some (.int m))).set j (some (.ref a))) H2
          obtain ⟨F1, o1⟩ := E2.store (fr := false) (v := .int m) (d := .int m) (by omega) g1 (.int m) fun z => nomatch z
          obtain ⟨F2, o2⟩ := E3.store (fr := false) (v := .int m) (d := .int m) (by omega) g1 (.int m) fun z => nomatch z
          have wk : ∀ b, WW (G.plus a) (δ1.set i (some (false, .int m))) (σ.set i (some (.int m))) b → WW (G.plus a) δ1 σ b := fun b z => z.elim .inl fun q => by
            rcases o2 b q with q | ⟨q, _⟩
            · exact .inr q
            · cases q
          have fv : FreshV C G (δ1.set i (some (false, .int m))) (σ.set i (some (.int m))) H2 (.ref a) (.list ws) := ⟨a, xs, ws, rfl, rfl, fun z => E1.ol a z n1, fun z => E1.fl a z n1, h2', r1.weak wk, F2⟩
          obtain ⟨F3, o3⟩ := F1.store (fr := true) (v := .ref a) (d := .list ws) (by rw [List.length_set]; omega) g2 fv.rep fun _ => fv
          refine p1 _ H2 F3 ⟨X2.kp, X2.th, fun b z => ?_⟩ fun l hl => ?_
          · rcases o3 b z with q | ⟨_, q⟩
            · rcases o1 b q with q | ⟨q, _⟩
              · exact .inl q
              · cases q
            · cases q; exact .inr n1
          · have h3 : j ≠ l := fun e => g2 (e ▸ hl)
            have h4 : i ≠ l := fun e => g1 (e ▸ hl)
            rw [List.getElem?_set_ne h3, List.getElem?_set_ne h4]
    · rename_i heq; cases heq
    · exact p1.elim
  · rw [q] at p1
    exact p1 cls dct σ H2 E2 X2 IoK.refl ev
  · rw [q] at p1
    exact p1.elim
end
end DL

namespace DL
open PySem PySem.Spec L2
open PyProof.Rows hiding St

def set4 (io : List Nat) (i0 i1 i2 i3 : Nat) : D × Bool → D × Bool → List D → Sl → SV
  | (.int m, _), (.list ws, true), [.int p, .int q], δ => if io.contains i0 || io.contains i1 || io.contains i2 || io.contains i3 || decide (δ.length ≤ i0) || decide (δ.length ≤ i1) || decide (δ.length ≤ i2) || decide (δ.length ≤ i3) || decide (i1 = i2) || decide (i1 = i3) then .stk
      else .ok .nx ((((δ.set i0 (some (false, .int m))).set i1 (some (true, .list ws))).set i2 (some (false, .int p))).set i3 (some (false, .int q)))
  | _, _, _, _ => .stk
def sSet4 (io : List Nat) (i0 i1 i2 i3 : Nat) (ga gb : Sl → EV) (gr : Sl → R Sl (List D)) : Sl → SV := fun δ => (ga δ).bind fun x δ1 => (gb δ1).bind fun y δ2 => (gr δ2).bind fun zs δ3 => set4 io i0 i1 i2 i3 x y zs δ3
section
variable {C : Ct} {W : WX} {G : Gh} {δ δ1 : Sl} {σ : St} {H H1 H2 : Hp} {X : Cx} {ga gb : Sl → EV} {gr : Sl → R Sl (List D)} {pos : Pos}
/-- stored, while a new list waits -/
theorem store_wait {a : Addr} {i : Nat} {m : Int} (E : ERel C G δ σ H) (Ea : ERel C (G.plus a) δ σ H) (hi : i < δ.length) (hio : i ∉ G.io) :
    ERel C G (δ.set i (some (false, .int m))) (σ.set i (some (.int m))) H ∧ ERel C (G.plus a) (δ.set i (some (false, .int m))) (σ.set i (some (.int m))) H ∧ (∀ b, WW (G.plus a) (δ.set i (some (false, .int m))) (σ.set i (some (.int m))) b → WW (G.plus a) δ σ b) ∧ ∀ b, Own (δ.set i (some (false, .int m))) (σ.set i (some (.int m))) b → Own δ σ b := by
  obtain ⟨F1, o1⟩ := E.store (fr := false) (v := .int m) (d := .int m) hi hio (.int m) fun z => nomatch z
  obtain ⟨F2, o2⟩ := Ea.store (fr := false) (v := .int m) (d := .int m) hi hio (.int m) fun z => nomatch z
  have o : ∀ b, Own (δ.set i (some (false, .int m))) (σ.set i (some (.int m))) b → Own δ σ b := fun b q => by
    rcases o1 b q with q | ⟨q, _⟩
    · exact q
    · cases q
  exact ⟨F1, F2, fun b z => z.imp id (o b), o⟩
theorem psd_set4 {i0 i1 i2 i3 : Nat} {y0 y1 y2 y3 : Str} {q0 q1 q2 q3 tp vp : Pos} {kk : Nat} {x1} {e0 e1 e2 e3 : Expr} (ha : PE X e0 (tD C W G ga)) (hb : PE X e1 (tD C W G gb)) (hes : ∀ G' : Gh, G'.io = G.io → PA X [e2, e3] (tA C W G' gr))
    (hc : X.calm = true) (h0 : PG X (.Name y0 q0) (gName i0)) (h1 : PG X (.Name y1 q1) (gName i1)) (h2 : PG X (.Name y2 q2) (gName i2)) (h3 : PG X (.Name y3 q3) (gName i3))
    (hs1 : starEach [e0, e1, e2, e3] X.env = (false, eval e0 X.env) :: starEach [e1, e2, e3] X.env := by rfl) (hs2 : starEach [e1, e2, e3] X.env = (false, eval e1 X.env) :: starEach [e2, e3] X.env := by rfl)
    (ht0 : (assignEach [.Name y0 q0, .Name y1 q1, .Name y2 q2, .Name y3 q3] X.env).map (·.2) = assign (.Name y0 q0) X.env :: (assignEach [.Name y1 q1, .Name y2 q2, .Name y3 q3] X.env).map (·.2) := by rfl)
    (ht1 : (assignEach [.Name y1 q1, .Name y2 q2, .Name y3 q3] X.env).map (·.2) = assign (.Name y1 q1) X.env :: (assignEach [.Name y2 q2, .Name y3 q3] X.env).map (·.2) := by rfl)
    (ht2 : (assignEach [.Name y2 q2, .Name y3 q3] X.env).map (·.2) = assign (.Name y2 q2) X.env :: (assignEach [.Name y3 q3] X.env).map (·.2) := by rfl)
    (ht3 : (assignEach [.Name y3 q3] X.env).map (·.2) = assign (.Name y3 q3) X.env :: (assignEach [] X.env).map (·.2) := by rfl)
    (hn2 : (assignEach [.Name y0 q0, .Name y1 q1, .Name y2 q2, .Name y3 q3] X.env).length = 4 := by rfl) (hst : (assignEach [.Name y0 q0, .Name y1 q1, .Name y2 q2, .Name y3 q3] X.env).findIdx? (·.1) = none := by rfl) (hK : X.K = C.K := by rfl)
    (hs : swapsWithSole [.Tuple [.Name y0 q0, .Name y1 q1, .Name y2 q2, .Name y3 q3] kk tp] (.Tuple [e0, e1, e2, e3] x1 vp) pos.line X.env = pure false := by rfl) (hw : swappedStores [.Tuple [.Name y0 q0, .Name y1 q1, .Name y2 q2, .Name y3 q3] kk tp] (.Tuple [e0, e1, e2, e3] x1 vp) X.env = pure none := by rfl)
    (ht4 : (assignEach [.Tuple [.Name y0 q0, .Name y1 q1, .Name y2 q2, .Name y3 q3] kk tp] X.env).map (·.2) = [assign (.Tuple [.Name y0 q0, .Name y1 q1, .Name y2 q2, .Name y3 q3] kk tp) X.env] := by rfl) :
    PS X (.Assign [.Tuple [.Name y0 q0, .Name y1 q1, .Name y2 q2, .Name y3 q3] kk tp] (.Tuple [e0, e1, e2, e3] x1 vp) pos) (tS C W G (sSet4 G.io i0 i1 i2 i3 ga gb gr)) :=
  PS.imp (ps_asg (pe_tup (pa_cons ha (pa_cons hb (t := tAx C W G.io gr) ⟨fun pos pins s σ H Q I ⟨G', e, h⟩ => (hes G' e).run pos pins s σ H Q I h⟩ hs2) hs1)) (pg_tup hc (pgs_cons h0 (pgs_cons h1 (pgs_cons h2 (pgs_cons h3 pgs_nil ht3) ht2) ht1) ht0) hn2 hst) hs hw ht4) fun D σ H ⟨δ, E, p⟩ => by
  refine ⟨δ, E, ?_⟩
  unfold sSet4 at p
  cases qa : ga δ with
  | stk => rw [qa] at p; exact p
  | exc c ys δ1 => rw [qa] at p; exact fun cls dct H' E' X' v => p cls dct σ H' E' X' IoK.refl v
  | ok x δ1 =>
  rw [qa] at p
  intro H1 E1 X1 v0 rv0 _
  refine ⟨δ1, E1, ?_⟩
  have p : PostS C W G δ σ H D ((gb δ1).bind fun y δ2 => (gr δ2).bind fun zs δ3 => set4 G.io i0 i1 i2 i3 x y zs δ3) := p
  cases qb : gb δ1 with
  | stk => rw [qb] at p; exact p
  | exc c ys δ2 => rw [qb] at p; exact fun cls dct H' E' X' v => p cls dct σ H' E' (X1.trans X') IoK.refl v
  | ok y δ2 =>
  rw [qb] at p
  intro H2 E2 X2 v1 rv1 fr
  have p : PostS C W G δ σ H D ((gr δ2).bind fun zs δ3 => set4 G.io i0 i1 i2 i3 x y zs δ3) := p
  obtain ⟨xd, xf⟩ := x
  obtain ⟨yd, yf⟩ := y
  have X12 := X1.trans X2
  by_cases hy : yf = true
  case neg =>
    -- no new list: nothing promised
    have yf0 : yf = false := by simpa using hy
    subst yf0
    refine ⟨G, rfl, δ2, E2, ?_⟩
    cases qc : gr δ2 with
    | stk => rw [qc] at p; exact p
    | exc c ys δ3 => rw [qc] at p; exact fun cls dct H' E' X' v => p cls dct σ H' E' (X12.trans X') IoK.refl v
    | ok zs δ3 =>
      rw [qc] at p
      have : set4 G.io i0 i1 i2 i3 (xd, xf) (yd, false) zs δ3 = .stk := by cases xd <;> cases yd <;> rfl
      have p : PostS C W G δ σ H D (set4 G.io i0 i1 i2 i3 (xd, xf) (yd, false) zs δ3) := p
      rw [this] at p
      exact (show False from p).elim
  case pos =>
  subst hy
  obtain ⟨⟨a, xs, ws, hv, ed, nold, nF, ha1, rl, Ea⟩, old⟩ := fr rfl
  have old1 := old a hv
  subst hv
  have ed : yd = .list ws := ed
  subst ed
  refine ⟨G.plus a, rfl, δ2, Ea, ?_⟩
  have plusw : ∀ δ' b, WW G δ' σ b → WW (G.plus a) δ' σ b := fun δ' b z => z.elim (fun q => .inl (.inl q)) .inr
  cases qc : gr δ2 with
  | stk => rw [qc] at p; exact p
  | exc c ys δ3 =>
    rw [qc] at p
    intro cls dct H3 E3 X3 ev
    exact p cls dct σ H3 E3.less (X12.trans X3) IoK.refl ⟨ev.1, ev.2.imp id fun ⟨dd, v, d, h1, h2, h3, h4⟩ => ⟨dd, v, d, h1, h2, h3, h4.weak (plusw δ3)⟩⟩
  | ok zs δ3 =>
  rw [qc] at p
  intro H3 E3 X3 vs rs
  have p : PostS C W G δ σ H D (set4 G.io i0 i1 i2 i3 (xd, xf) (.list ws, true) zs δ3) := p
  obtain ⟨m, rfl⟩ : ∃ m, xd = .int m := by cases xd <;> first | exact ⟨_, rfl⟩ | exact (show False from p).elim
  obtain ⟨pz, qz, rfl⟩ : ∃ pz qz, zs = [.int pz, .int qz] := by
    cases zs with
    | nil => exact (show False from p).elim
    | cons z zs =>
      cases z <;> try exact (show False from p).elim
      cases zs with
      | nil => exact (show False from p).elim
      | cons z2 zs =>
        cases z2 <;> try exact (show False from p).elim
        cases zs with
        | nil => exact ⟨_, _, rfl⟩
        | cons _ _ => exact (show False from p).elim
  unfold set4 at p
  dsimp only at p
  split at p
  case isTrue => exact (show False from p).elim
  case isFalse hg =>
  simp only [Bool.or_eq_true, not_or, decide_eq_true_eq] at hg
  obtain ⟨⟨⟨⟨⟨⟨⟨⟨⟨g0, g1⟩, g2⟩, g3⟩, b0⟩, b1⟩, b2⟩, b3⟩, d1⟩, d2⟩ := hg
  have g0 : i0 ∉ G.io := by simpa using g0
  have g1 : i1 ∉ G.io := by simpa using g1
  have g2 : i2 ∉ G.io := by simpa using g2
  have g3 : i3 ∉ G.io := by simpa using g3
  cases rv0
  cases rs with
  | cons r2 rs =>
  cases r2
  cases rs with
  | cons r3 rs =>
  cases r3
  cases rs
  refine ⟨by rw [sizeLine_eq]; show 4 ≤ 16777216; decide, fun q hq => ?_⟩
  have nown : ¬ Own δ2 σ a := fun ⟨i, d, h1, h2⟩ => by
    obtain ⟨b, _, _, e1, _, _, _, n, _⟩ := Ea.ow i d h1
    rw [h2] at e1; cases e1
    exact n (.inr rfl)
  have ha3 : H3 a = some (.lst xs) := X3.kp a _ ha1 fun z => absurd z nown
  have rl3 : RepL C (WW (G.plus a) δ3 σ) H3 xs ws := X3.repL rl
  have X4 : Ext δ3 σ H3 δ3 σ (upd H3 q (.tup [.int m, .ref a, .int pz, .int qz])) := Ext.grow hq
  have F0 : ERel C (G.plus a) δ3 σ (upd H3 q (.tup [.int m, .ref a, .int pz, .int qz])) := (E3.grow hq fun ys e => by cases e).less
  have kp : Kept (fun _ => False) H3 (upd H3 q (.tup [.int m, .ref a, .int pz, .int qz])) := fun b u h _ => by rw [upd_ne (ne_of_none h hq)]; exact h
  have rl4 : RepL C (WW (G.plus a) δ3 σ) (upd H3 q (.tup [.int m, .ref a, .int pz, .int qz])) xs ws := rl3.move (O := fun _ => False) kp (fun _ z => z.elim) fun b z => .inl z
  have ha4 : (upd H3 q (.tup [.int m, .ref a, .int pz, .int qz])) a = some (.lst xs) := by rw [upd_ne (ne_of_none ha3 hq)]; exact ha3
  refine ⟨_, _, rfl, .inl (.inl upd_same), rfl, _, _, rfl, _, _, rfl, _, _, rfl, _, _, rfl, rfl, ?_⟩
  show D.nx ((((σ.set i0 (some (.int m))).set i1 (some (.ref a))).set i2 (some (.int pz))).set i3 (some (.int qz))) _
  generalize upd H3 q (.tup [.int m, .ref a, .int pz, .int qz]) = H4 at *
  obtain ⟨S1, T1, w1, o1⟩ := store_wait (m := m) F0.less F0 (by omega) g0
  have fv : FreshV C G (δ3.set i0 (some (false, .int m))) (σ.set i0 (some (.int m))) H4 (.ref a) (.list ws) := ⟨a, xs, ws, rfl, rfl, nold, nF, ha4, rl4.weak w1, T1⟩
  obtain ⟨S2, o2⟩ := S1.store (i := i1) (fr := true) (v := .ref a) (d := .list ws) (by rw [List.length_set]; omega) g1 fv.rep fun _ => fv
  obtain ⟨S3, o3⟩ := S2.store (i := i2) (fr := false) (v := .int pz) (d := .int pz) (by rw [List.length_set, List.length_set]; omega) g2 (.int pz) fun z => nomatch z
  obtain ⟨S4, o4⟩ := S3.store (i := i3) (fr := false) (v := .int qz) (d := .int qz) (by rw [List.length_set, List.length_set, List.length_set]; omega) g3 (.int qz) fun z => nomatch z
  refine p _ H4 S4 ⟨((X12.trans X3).trans X4).kp, ((X12.trans X3).trans X4).th, fun b z => ?_⟩ fun l hl => ?_
  · rcases o4 b z with z | ⟨z, _⟩
    · rcases o3 b z with z | ⟨z, _⟩
      · rcases o2 b z with z | ⟨_, z⟩
        · exact (X12.trans X3).own b (o1 b z)
        · cases z
          -- the new list: new since the start, or a slot's own
          rcases old1 with o | o
          · right
            cases e : H a with
            | none => rfl
            | some u => exact absurd o (X1.th a (by rw [e]; exact fun z => nomatch z))
          · exact X1.own a o
      · cases z
    · cases z
  · have n0 : i0 ≠ l := fun e => g0 (e ▸ hl)
    have n1 : i1 ≠ l := fun e => g1 (e ▸ hl)
    have n2 : i2 ≠ l := fun e => g2 (e ▸ hl)
    have n3 : i3 ≠ l := fun e => g3 (e ▸ hl)
    rw [List.getElem?_set_ne n3, List.getElem?_set_ne n2, List.getElem?_set_ne n1, List.getElem?_set_ne n0]
end
end DL

namespace DL
open PySem PySem.Spec L2
open PyProof.Rows hiding St

/-- data without lists -/
def flat2 : D → Bool
  | .tuple xs => xs.all flatD
  | d => flatD d
theorem RepL.flat {C : Ct} {W W' : Addr → Prop} {H : Hp} : ∀ {vs : List V} {ds : List D}, (∀ d ∈ ds, flatD d = true) → RepL C W H vs ds → RepL C W' H vs ds
  | [], [], _, .nil => .nil
  | v :: vs, d :: ds, h, .cons r t => by
    refine .cons ?_ (RepL.flat (fun e he => h e (List.mem_cons_of_mem _ he)) t)
    have hd := h d (List.mem_cons_self ..)
    cases r <;> first | exact .non | exact .bl _ | exact .int _ | exact .str _ | (cases hd; done)
theorem Rep.flat {C : Ct} {W W' : Addr → Prop} {H : Hp} {v : V} {d : D} (h : flat2 d = true) (r : Rep C W H v d) : Rep C W' H v d := by
  cases r with
  | tup hs rs =>
    refine .tup hs (rs.flat fun e he => ?_)
    have h : List.all _ flatD = true := h
    exact List.all_eq_true.mp h e he
  | non => exact .non
  | bl b => exact .bl b
  | int i => exact .int i
  | str x => exact .str x
  | _ => cases h
/-- the slots at is are lists without lists in them -/
def lists (δ : Sl) (is : List Nat) : Bool := is.all fun i => match δ[i]? with
  | some (some (false, .list ds)) => ds.all flatD
  | _ => false
/-- all other slots hold no list but their own ones -/
def others (δ : Sl) (is : List Nat) : Bool := (List.range δ.length).all fun j => is.contains j || match δ[j]? with
  | some (some (false, d)) => flat2 d
  | some (some (true, .list ds)) => ds.all flatD
  | some (some (true, _)) => false
  | _ => true
def fzL (δ : Sl) : List Nat → Option Sl
  | [] => some δ
  | i :: is => match δ[i]? with
    | some (some (true, .list ds)) => fzL (δ.set i (some (false, .list ds))) is
    | _ => none
def thL (δ : Sl) : List Nat → Sl
  | [] => δ
  | i :: is => match δ[i]? with
    | some (some (_, d)) => thL (δ.set i (some (true, d))) is
    | _ => thL δ is
def sThaw (is : List Nat) (g : Sl → SV) : Sl → SV := fun δ => match fzL δ is with
  | some δF => match g δF with
    | .ok .nx δ' => if lists δ' is && others δ' is then .ok .nx (thL δ' is) else .stk
    | .ok (.rt (.bool b) false) δ' => if lists δ' is then .ok (.rt (.bool b) false) δ' else .stk
    | _ => .stk
  | none => .stk
def Gh.more (G : Gh) (is : List Nat) : Gh := ⟨G.F, G.Old, is ++ G.io⟩
section
variable {C : Ct} {W : WX} {G : Gh} {δ δF δ' : Sl} {σ σ' : St} {H H' : Hp} {X : Cx}
theorem fz_ok : ∀ {is : List Nat} {δ δF : Sl}, is.Nodup → fzL δ is = some δF → ERel C G δ σ H → ERel C G δF σ H ∧ (∀ a, Own δF σ a → Own δ σ a) ∧ ∀ i ∈ is, ∃ ds a, δ[i]? = some (some (true, .list ds)) ∧ σ[i]? = some (some (.ref a))
  | [], δ, δF, _, h, E => by
    cases h
    exact ⟨E, fun _ z => z, fun i hi => by cases hi⟩
  | i :: is, δ, δF, nd, h, E => by
    unfold fzL at h
    split at h
    · rename_i ds hd
      obtain ⟨a, xs, ds', h1, h2, h3, h4, _⟩ := E.ow i _ hd
      obtain ⟨E1, na⟩ := E.freeze (xs := xs) (x := some (false, .list ds)) hd h1 (.inr rfl)
      have nd2 := List.nodup_cons.mp nd
      obtain ⟨E2, o2, all⟩ := fz_ok nd2.2 h E1
      refine ⟨E2, fun b z => (own_set (fun d z => by cases z) b (o2 b z)).1, fun j hj => ?_⟩
      rcases List.mem_cons.mp hj with rfl | hj
      · exact ⟨ds, a, hd, h1⟩
      · obtain ⟨es, b, g1, g2⟩ := all j hj
        have ne : i ≠ j := fun e => nd2.1 (e ▸ hj)
        rw [List.getElem?_set_ne ne] at g1
        exact ⟨es, b, g1, g2⟩
    · cases h
theorem thL_get : ∀ {is : List Nat} {δ : Sl} {j : Nat} {x : Bool × D}, (thL δ is)[j]? = some (some x) → ∃ b, δ[j]? = some (some (b, x.2)) ∧ (j ∈ is → x.1 = true) ∧ (j ∉ is → x.1 = b)
  | [], δ, j, x, h => ⟨x.1, h, (fun z => by cases z), fun _ => rfl⟩
  | i :: is, δ, j, x, h => by
    unfold thL at h
    split at h
    · rename_i b d hd
      obtain ⟨b2, g1, g2, g3⟩ := thL_get h
      by_cases e : i = j
      · subst e
        rw [List.getElem?_set_self (List.getElem?_eq_some_iff.mp hd).1] at g1
        have g1 := Option.some.inj (Option.some.inj g1)
        refine ⟨b, by rw [hd, ← (congrArg Prod.snd g1)], fun _ => ?_, fun z => absurd (List.mem_cons_self ..) z⟩
        by_cases m : i ∈ is
        · exact g2 m
        · rw [g3 m]
          exact (congrArg Prod.fst g1).symm
      · rw [List.getElem?_set_ne e] at g1
        exact ⟨b2, g1, fun z => (List.mem_cons.mp z).elim (fun q => absurd q.symm e) g2, fun z => g3 fun q => z (List.mem_cons_of_mem _ q)⟩
    · rename_i hd
      obtain ⟨b2, g1, g2, g3⟩ := thL_get h
      refine ⟨b2, g1, fun z => ?_, fun z => g3 fun q => z (List.mem_cons_of_mem _ q)⟩
      rcases List.mem_cons.mp z with e | z
      · subst e
        exact absurd g1 (hd _ _)
      · exact g2 z
theorem thL_len : ∀ (is : List Nat) (δ : Sl), (thL δ is).length = δ.length
  | [], _ => rfl
  | i :: is, δ => by
    unfold thL
    split
    · rw [thL_len is, List.length_set]
    · exact thL_len is δ
theorem lists_at {is : List Nat} (h : lists δ' is = true) {i : Nat} (hi : i ∈ is) : ∃ ds, δ'[i]? = some (some (false, .list ds)) ∧ ∀ d ∈ ds, flatD d = true := by
  have z := List.all_eq_true.mp h i hi
  split at z
  · rename_i ds hd
    exact ⟨ds, hd, fun d he => List.all_eq_true.mp z d he⟩
  · cases z
theorem others_at {is : List Nat} (h : others δ' is = true) {j : Nat} (hj : j ∉ is) : (∀ d, δ'[j]? = some (some (false, d)) → flat2 d = true) ∧ ∀ ds, δ'[j]? = some (some (true, .list ds)) → ∀ d ∈ ds, flatD d = true := by
  have key : ∀ x, δ'[j]? = some (some x) → (match (some (some x) : Option (Option (Bool × D))) with
    | some (some (false, d)) => flat2 d
    | some (some (true, .list ds)) => ds.all flatD
    | some (some (true, _)) => false
    | _ => true) = true := fun x hx => by
    have hl := (List.getElem?_eq_some_iff.mp hx).1
    have z := List.all_eq_true.mp h j (List.mem_range.mpr hl)
    rw [hx] at z
    have c : is.contains j = false := by simpa using hj
    rw [c] at z
    simpa using z
  exact ⟨fun d e => key _ e, fun ds e d hd => List.all_eq_true.mp (key _ e) d hd⟩
theorem psd_thaw {st : Stmt} {g : Sl → SV} {is : List Nat} (nd : is.Nodup) (h : ∀ G' : Gh, G'.io = is ++ G.io → PS X st (tS C W G' g)) : PS X st (tS C W G (sThaw is g)) := PS.imp (h (G.more is) rfl) fun D σ H ⟨δ, E, p⟩ => by
  unfold sThaw at p
  cases q0 : fzL δ is with
  | none => rw [q0] at p; exact p.elim
  | some δF =>
  rw [q0] at p
  obtain ⟨EF, oF, own⟩ := fz_ok nd q0 E
  have EM : ERel C (G.more is) δF σ H := ⟨EF.len, EF.sh, fun i d e => by
    obtain ⟨a, xs, ds, h1, h2, h3, h4, h5, h6⟩ := EF.ow i d e
    exact ⟨a, xs, ds, h1, h2, h3, h4, h5, fun n => h6 fun z => n (List.mem_append_right _ z)⟩, EF.inj, EF.fl, EF.ol, EF.sz⟩
  refine ⟨δF, EM, ?_⟩
  have p : PostS C W G δ σ H D (match g δF with
    | .ok .nx δ' => if lists δ' is && others δ' is then .ok .nx (thL δ' is) else .stk
    | .ok (.rt (.bool b) false) δ' => if lists δ' is then .ok (.rt (.bool b) false) δ' else .stk
    | _ => .stk) := p
  have back : ∀ {δ' σ' H'}, (∀ i ∈ is, ∀ d, δ'[i]? ≠ some (some (true, d))) → ERel C (G.more is) δ' σ' H' → ERel C G δ' σ' H' := fun {δ' σ' H'} no E' => ⟨E'.len, E'.sh, fun i d e => by
    obtain ⟨a, xs, ds, h1, h2, h3, h4, h5, h6⟩ := E'.ow i d e
    exact ⟨a, xs, ds, h1, h2, h3, h4, h5, fun n => h6 fun z => (List.mem_append.mp z).elim (fun q => no i q d e) n⟩, E'.inj, E'.fl, E'.ol, E'.sz⟩
  cases q1 : g δF with
  | stk => rw [q1] at p; exact (show False from p).elim
  | exc c xs δ' => rw [q1] at p; exact (show False from p).elim
  | ok f δ' =>
  rw [q1] at p
  cases f with
  | bk => exact (show False from p).elim
  | ct => exact (show False from p).elim
  | rt d fr =>
    cases d <;> first | exact (show False from p).elim | skip
    cases fr <;> first | exact (show False from p).elim | skip
    rename_i b
    have p : PostS C W G δ σ H D (if lists δ' is then .ok (.rt (.bool b) false) δ' else .stk) := p
    split at p
    case isFalse => exact (show False from p).elim
    case isTrue hc =>
    intro σ' H' E' X' I' v rv fr
    have no : ∀ i ∈ is, ∀ d, δ'[i]? ≠ some (some (true, d)) := fun i hi d e => by
      obtain ⟨ds, h1, _⟩ := lists_at hc hi
      rw [h1] at e; cases e
    exact p σ' H' (back no E') ⟨fun a o h n => X'.kp a o h fun z => n (oF a z), X'.th, fun b z => (X'.own b z).imp (oF b) id⟩ (fun j hj => I' j (List.mem_append_right _ hj)) v rv fun z => nomatch z
  | nx =>
    have p : PostS C W G δ σ H D (if lists δ' is && others δ' is then .ok .nx (thL δ' is) else .stk) := p
    split at p
    case isFalse => exact (show False from p).elim
    case isTrue hc =>
    rw [Bool.and_eq_true] at hc
    intro σ' H' E' X' I'
    have at' : ∀ i ∈ is, ∃ ds a xs, δ'[i]? = some (some (false, .list ds)) ∧ (∀ d ∈ ds, flatD d = true) ∧ σ'[i]? = some (some (.ref a)) ∧ σ[i]? = some (some (.ref a)) ∧ H' a = some (.lst xs) ∧ RepL C (WW (G.more is) δ' σ') H' xs ds ∧ ¬ WW (G.more is) δ' σ' a ∧ Own δ σ a ∧ (i ∉ G.io → ¬ G.Old a) := fun i hi => by
      obtain ⟨ds, h1, h2⟩ := lists_at hc.1 hi
      obtain ⟨v, h3, h4⟩ := E'.sh i _ h1
      obtain ⟨es, a, g1, g2⟩ := own i hi
      have ii := I' i (List.mem_append_left _ hi)
      rw [h3, g2] at ii
      cases ii
      obtain ⟨a', ys, fs, k1, _, _, _, _, k6⟩ := E.ow i _ g1
      rw [g2] at k1
      cases k1
      cases h4 with
      | lst n hx rl => exact ⟨ds, a, _, h1, h2, h3, g2, hx, rl, n, ⟨i, _, g1, g2⟩, k6⟩
    have ownT : ∀ b, Own (thL δ' is) σ' b → Own δ' σ' b ∨ ∃ i ∈ is, σ'[i]? = some (some (.ref b)) := fun b ⟨j, d, h1, h2⟩ => by
      obtain ⟨bb, g1, g2, g3⟩ := thL_get h1
      by_cases m : j ∈ is
      · exact .inr ⟨j, m, h2⟩
      · have e := g3 m
        dsimp only at e g1
        rw [← e] at g1
        exact .inl ⟨j, d, g1, h2⟩
    have ET : ERel C G (thL δ' is) σ' H' := by
      refine ⟨by rw [thL_len]; exact E'.len, fun j d e => ?_, fun j d e => ?_, fun j k a dj dk e1 e2 e3 e4 => ?_, E'.fl, E'.ol, E'.sz⟩
      · obtain ⟨bb, g1, g2, g3⟩ := thL_get e
        by_cases m : j ∈ is
        · exact absurd (g2 m) (by simp)
        · have ee := g3 m
          dsimp only at ee g1
          rw [← ee] at g1
          obtain ⟨v, r1, r2⟩ := E'.sh j d g1
          exact ⟨v, r1, r2.flat ((others_at hc.2 m).1 d g1)⟩
      · obtain ⟨bb, g1, g2, g3⟩ := thL_get e
        by_cases m : j ∈ is
        · obtain ⟨ds, a, xs, k1, k2, k3, k4, k5, k6, k7, k8, k9⟩ := at' j m
          rw [k1] at g1
          have g1 := Option.some.inj (Option.some.inj g1)
          have hd : d = .list ds := (congrArg Prod.snd g1).symm
          exact ⟨a, xs, ds, k3, hd, k5, k6.flat k2, fun z => k7 (.inl z), k9⟩
        · have ee := g3 m
          dsimp only at ee g1
          rw [← ee] at g1
          obtain ⟨a, xs, ds, r1, rfl, r3, r4, r5, r6⟩ := E'.ow j d g1
          exact ⟨a, xs, ds, r1, rfl, r3, r4.flat ((others_at hc.2 m).2 ds g1), r5, fun n => r6 fun z => (List.mem_append.mp z).elim m n⟩
      · obtain ⟨b1, g1, g2, g3⟩ := thL_get e1
        obtain ⟨b2, g4, g5, g6⟩ := thL_get e2
        by_cases m1 : j ∈ is
        · obtain ⟨_, a1, _, k1, _, k3, k4, _, _, k7, k8, _⟩ := at' j m1
          rw [k3] at e3; cases e3
          by_cases m2 : k ∈ is
          · obtain ⟨_, a2, _, l1, _, l3, l4, _, _, l7, _⟩ := at' k m2
            rw [l3] at e4; cases e4
            obtain ⟨es1, _, u1, _⟩ := own j m1
            obtain ⟨es2, _, u2, _⟩ := own k m2
            exact E.inj j k _ _ _ u1 u2 k4 l4
          · have ee := g6 m2
            dsimp only at ee g4
            rw [← ee] at g4
            exact absurd (.inr ⟨k, _, g4, e4⟩) k7
        · have ee := g3 m1
          dsimp only at ee g1
          rw [← ee] at g1
          by_cases m2 : k ∈ is
          · obtain ⟨_, a2, _, l1, _, l3, l4, _, _, l7, _⟩ := at' k m2
            rw [l3] at e4; cases e4
            exact absurd (.inr ⟨j, _, g1, e3⟩) l7
          · have ee2 := g6 m2
            dsimp only at ee2 g4
            rw [← ee2] at g4
            exact E'.inj j k a _ _ g1 g4 e3 e4
    refine p σ' H' ET ⟨fun a o h n => X'.kp a o h fun z => n (oF a z), X'.th, fun b z => ?_⟩ fun j hj => I' j (List.mem_append_right _ hj)
    rcases ownT b z with z | ⟨i, hi, z⟩
    · exact (X'.own b z).imp (oF b) id
    · obtain ⟨_, a, _, _, _, k3, k4, _, _, _, k8, _⟩ := at' i hi
      rw [k3] at z; cases z
      exact .inl k8
end
end DL

namespace DL
open PySem PySem.Spec L2
open PyProof.Rows hiding St

theorem forD_inv {tgt : D → Bool → Sl → Option Sl} {body : Sl → SV} {ds : List D} (P : Nat → Sl → Prop) {δ : Sl} (h0 : P 0 δ)
    (step : ∀ i d δ, ds[i]? = some d → P i δ → ∃ δ1, tgt d false δ = some δ1 ∧ ∃ δ2, body δ1 = .ok .nx δ2 ∧ P (i + 1) δ2) : ∃ δ', forD tgt body ds δ = .ok .nx δ' ∧ P ds.length δ' := by
  have aux : ∀ (m i : Nat) (δ : Sl), m + i = ds.length → P i δ → ∃ δ', forD tgt body (ds.drop i) δ = .ok .nx δ' ∧ P ds.length δ' := by
    intro m
    induction m with
    | zero =>
      intro i δ e h
      have e : i = ds.length := by omega
      subst e
      rw [List.drop_length]
      exact ⟨δ, rfl, h⟩
    | succ m ih =>
      intro i δ e h
      have hi : i < ds.length := by omega
      rw [List.drop_eq_getElem_cons hi]
      obtain ⟨δ1, h1, δ2, h2, h3⟩ := step i ds[i] δ (List.getElem?_eq_getElem hi) h
      obtain ⟨δ', h4, h5⟩ := ih (i + 1) δ2 (by omega) h3
      refine ⟨δ', ?_, h5⟩
      simp only [forD, h1, h2]
      exact h4
  obtain ⟨δ', h1, h2⟩ := aux ds.length 0 δ rfl h0
  exact ⟨δ', by simpa using h1, h2⟩
/-- .. with an end at k -/
theorem forD_end {tgt : D → Bool → Sl → Option Sl} {body : Sl → SV} {ds : List D} (P : Nat → Sl → Prop) (Q : SV → Prop) {δ : Sl} {k : Nat} (hk : k < ds.length) (h0 : P 0 δ)
    (step : ∀ i d δ, i < k → ds[i]? = some d → P i δ → ∃ δ1, tgt d false δ = some δ1 ∧ ∃ δ2, body δ1 = .ok .nx δ2 ∧ P (i + 1) δ2)
    (stop : ∀ d δ, ds[k]? = some d → P k δ → ∃ δ1, tgt d false δ = some δ1 ∧ ∃ x fr δ2, body δ1 = .ok (.rt x fr) δ2 ∧ Q (.ok (.rt x fr) δ2)) : Q (forD tgt body ds δ) := by
  have aux : ∀ (m i : Nat) (δ : Sl), m + i = k → P i δ → Q (forD tgt body (ds.drop i) δ) := by
    intro m
    induction m with
    | zero =>
      intro i δ e h
      have e : i = k := by omega
      subst e
      rw [List.drop_eq_getElem_cons hk]
      obtain ⟨δ1, h1, x, fr, δ2, h2, h3⟩ := stop ds[i] δ (List.getElem?_eq_getElem hk) h
      simp only [forD, h1, h2]
      exact h3
    | succ m ih =>
      intro i δ e h
      have hi : i < ds.length := by omega
      rw [List.drop_eq_getElem_cons hi]
      obtain ⟨δ1, h1, δ2, h2, h3⟩ := step i ds[i] δ (by omega) (List.getElem?_eq_getElem hi) h
      have h4 := ih (i + 1) δ2 (by omega) h3
      simp only [forD, h1, h2]
      exact h4
  simpa using aux k 0 δ rfl h0
theorem lcD_map {vs : List Nat} {tgt : D → Bool → Sl → Option Sl} {gt : Sl → R Sl Bool} {ge : Sl → EV} {δ : Sl} (f : D → D) : ∀ {ds : List D} (acc : List D),
    (∀ d ∈ ds, ∃ δ1 δ2 δ3 fr, tgt d false δ = some δ1 ∧ gt δ1 = .ok true δ2 ∧ ge δ2 = .ok (f d, fr) δ3 ∧ wipeD δ3 vs = δ) → lcD vs tgt gt ge ds acc δ = .ok (acc ++ ds.map f) δ
  | [], acc, _ => by simp [lcD]
  | d :: r, acc, h => by
    obtain ⟨δ1, δ2, δ3, fr, h1, h2, h3, h4⟩ := h d (by simp)
    have ih := lcD_map (ds := r) f (acc ++ [f d]) fun x hx => h x (by simp [hx])
    simp only [lcD, h1, h2, h3, h4]
    rw [ih]
    simp
/-- a comprehension with an invariant of the state -/
theorem lcD_inv {vs : List Nat} {tgt : D → Bool → Sl → Option Sl} {gt : Sl → R Sl Bool} {ge : Sl → EV} {ds : List D} (P : Nat → List D → Sl → Prop) {δ : Sl} (h0 : P 0 [] δ)
    (step : ∀ i d acc δ, ds[i]? = some d → P i acc δ → ∃ δ1, tgt d false δ = some δ1 ∧ ((∃ δ2 x δ3, gt δ1 = .ok true δ2 ∧ ge δ2 = .ok x δ3 ∧ P (i + 1) (acc ++ [x.1]) (wipeD δ3 vs)) ∨ ∃ δ2, gt δ1 = .ok false δ2 ∧ P (i + 1) acc (wipeD δ2 vs))) :
    ∃ acc δ', lcD vs tgt gt ge ds [] δ = .ok acc δ' ∧ P ds.length acc δ' := by
  have aux : ∀ (m i : Nat) (acc : List D) (δ : Sl), m + i = ds.length → P i acc δ → ∃ acc' δ', lcD vs tgt gt ge (ds.drop i) acc δ = .ok acc' δ' ∧ P ds.length acc' δ' := by
    intro m
    induction m with
    | zero =>
      intro i acc δ e h
      have e : i = ds.length := by omega
      subst e
      rw [List.drop_length]
      exact ⟨acc, δ, rfl, h⟩
    | succ m ih =>
      intro i acc δ e h
      have hi : i < ds.length := by omega
      rw [List.drop_eq_getElem_cons hi]
      obtain ⟨δ1, h1, h2⟩ := step i ds[i] acc δ (List.getElem?_eq_getElem hi) h
      rcases h2 with ⟨δ2, x, δ3, h2, h3, h4⟩ | ⟨δ2, h2, h4⟩
      · obtain ⟨acc', δ', h5, h6⟩ := ih (i + 1) _ _ (by omega) h4
        refine ⟨acc', δ', ?_, h6⟩
        simp only [lcD, h1, h2, h3]
        exact h5
      · obtain ⟨acc', δ', h5, h6⟩ := ih (i + 1) _ _ (by omega) h4
        refine ⟨acc', δ', ?_, h6⟩
        simp only [lcD, h1, h2]
        exact h5
  obtain ⟨acc, δ', h1, h2⟩ := aux ds.length 0 [] δ rfl h0
  exact ⟨acc, δ', by simpa using h1, h2⟩
/-- a while loop: m tells how many turns are left -/
theorem whD_inv {gt : Sl → R Sl Bool} {body : Sl → SV} (P : Nat → Sl → Prop) {n : Nat} {δ : Sl} (h0 : P n δ)
    (step : ∀ m δ, m ≤ n → P m δ → (∃ δ1, gt δ = .ok false δ1 ∧ P 0 δ1 ∧ m = 0 ∧ δ1 = δ) ∨ ∃ m' δ1 δ2, m = m' + 1 ∧ gt δ = .ok true δ1 ∧ body δ1 = .ok .nx δ2 ∧ ∃ m'', m'' ≤ m' ∧ P m'' δ2) (N : Nat) (hN : n < N) : ∃ δ', whD gt body N δ = .ok .nx δ' ∧ P 0 δ' := by
  induction N generalizing n δ with
  | zero => omega
  | succ N ih =>
    rcases step n δ (Nat.le_refl _) h0 with ⟨δ1, h1, h2, _, _⟩ | ⟨m', δ1, δ2, rfl, h1, h2, m'', hm, h3⟩
    · exact ⟨δ1, by simp [whD, h1, R.bind], h2⟩
    · obtain ⟨δ', h4, h5⟩ := ih h3 (fun m δ hm' hp => step m δ (by omega) hp) (by omega)
      exact ⟨δ', by simp [whD, h1, h2, R.bind, h4], h5⟩
theorem intBits_lt {i : Int} {k : Nat} (h : i.natAbs < 2 ^ k) : Builtin.Int.intBits i ≤ k := PyProof.Rows.intBits_le h
theorem dShl_one {j : Int} (h0 : 0 ≤ j) (h1 : j ≤ 100000) : dShl (.int 1) (.int j) = some (.int (2 ^ j.toNat), false) := by
  have e : Builtin.Int.intBits 1 = 1 := by decide
  have c : 0 ≤ j ∧ bitsOk ((Builtin.Int.intBits 1 : Int) + j) = true := ⟨h0, by unfold bitsOk; rw [e]; exact decide_eq_true (by omega)⟩
  show (if 0 ≤ j ∧ bitsOk ((Builtin.Int.intBits 1 : Int) + j) = true then some (PyData.int (1 * 2 ^ j.toNat), false) else none) = _
  rw [if_pos c, Int.one_mul]
theorem dShl_ok {i j : Int} (k : Nat) (hi : i.natAbs < 2 ^ k) (hk : k ≤ 10000000) (h0 : 0 ≤ j) (h1 : j ≤ 100000) : dShl (.int i) (.int j) = some (.int (i * 2 ^ j.toNat), false) := by
  have e := intBits_lt hi
  have c : 0 ≤ j ∧ bitsOk ((Builtin.Int.intBits i : Int) + j) = true := ⟨h0, by unfold bitsOk; exact decide_eq_true (by omega)⟩
  show (if 0 ≤ j ∧ bitsOk ((Builtin.Int.intBits i : Int) + j) = true then some (PyData.int (i * 2 ^ j.toNat), false) else none) = _
  rw [if_pos c]
theorem dShr_ok {i j : Int} (h0 : 0 ≤ j) : dShr (.int i) (.int j) = some (.int (i / 2 ^ j.toNat), false) := by simp only [dShr]; rw [if_pos h0]
theorem dMul_ok {i j : Int} (k l : Nat) (hi : i.natAbs < 2 ^ k) (hj : j.natAbs < 2 ^ l) (hk : k + l ≤ 134217728) : dMul (.int i) (.int j) = some (.int (i * j), false) := by
  have e := intBits_lt hi
  have f := intBits_lt hj
  simp only [dMul]
  rw [if_pos (by unfold bitsOk; exact decide_eq_true (by omega))]
theorem dMod_ok {i j : Int} (h0 : 0 < j) : dMod (.int i) (.int j) = some (.int (i % j), false) := by simp only [dMod]; rw [if_pos h0]
theorem dDiv_ok {i j : Int} (h0 : 0 < j) (h1 : j.natAbs < 2 ^ 9000) : dDiv (.int i) (.int j) = some (.int (i / j), false) := by
  have z : j.natAbs ≠ 0 := by omega
  have c : 0 < j ∧ j.natAbs.log2 < 9000 := ⟨h0, (Nat.log2_lt z).mpr h1⟩
  show (if 0 < j ∧ j.natAbs.log2 < 9000 then some (PyData.int (i / j), false) else none) = _
  rw [if_pos c]
theorem dPow_ok {i j : Int} (k : Nat) (hi : i.natAbs < 2 ^ k) (h0 : 0 ≤ j) (h1 : k * j.toNat ≤ 134217728) : dPow (.int i) (.int j) = some (.int (i ^ j.toNat), false) := by
  have e := intBits_lt hi
  have c : 0 ≤ j ∧ bitsOk ((Builtin.Int.intBits i : Int) * j) = true := ⟨h0, by
    unfold bitsOk
    refine decide_eq_true ?_
    obtain ⟨n, rfl⟩ := Int.eq_ofNat_of_zero_le h0
    have : (Builtin.Int.intBits i) * n ≤ k * n := Nat.mul_le_mul_right _ e
    have h2 : k * n ≤ 134217728 := h1
    have h3 : (Builtin.Int.intBits i) * n ≤ 134217728 := Nat.le_trans this h2
    rw [← Int.natCast_mul]
    exact Int.ofNat_le.mpr h3⟩
  show (if 0 ≤ j ∧ bitsOk ((Builtin.Int.intBits i : Int) * j) = true then some (PyData.int (i ^ j.toNat), false) else none) = _
  rw [if_pos c]
end DL

namespace DL
open PySem PySem.Spec
open PyProof.Rows hiding St

section
variable {s a b : Type} {x : a} {d : s} {f : a → s → R s b} {c : Nat} {xs : List PyData}
theorem e_bind_ok : (R.ok x d : R s a).bind f = f x d := id rfl
theorem e_bind_exc : (R.exc c xs d : R s a).bind f = .exc c xs d := id rfl
theorem e_bind_stk : (R.stk : R s a).bind f = .stk := id rfl
end
section
variable {δ δ1 δ2 : Sl} {i j : Nat} {d e : PyData} {fr fr' : Bool} {io : List Nat} {f f' : DOp} {ga gb gc : Sl → EV} {gr gs : Sl → R Sl (List PyData)} {gt gu : Sl → R Sl Bool} {x y : PyData × Bool} {c : Nat} {xs ys : List PyData}
def kVar (i : Nat) (δ : Sl) : Option (Option (Bool × PyData)) → EV
  | some (some (false, d)) => .ok (d, false) δ
  | some (some (true, d)) => .ok (d, false) (δ.set i (some (false, d)))
  | _ => .stk
theorem e_var : gVar i δ = kVar i δ δ[i]? := by unfold gVar kVar; split <;> simp_all
theorem e_var1 : kVar i δ (some (some (false, d))) = .ok (d, false) δ := id rfl
theorem e_var2 : kVar i δ (some (some (true, d))) = .ok (d, false) (δ.set i (some (false, d))) := id rfl
def kMove (io : List Nat) (i : Nat) (δ : Sl) : Option (Option (Bool × PyData)) → EV
  | some (some (false, d)) => .ok (d, false) δ
  | some (some (true, d)) => if io.contains i then .stk else .ok (d, true) (δ.set i none)
  | _ => .stk
theorem e_move : gMove io i δ = kMove io i δ δ[i]? := by unfold gMove kMove; split <;> simp_all
theorem e_move1 : kMove io i δ (some (some (false, d))) = .ok (d, false) δ := id rfl
theorem e_move2 : kMove io i δ (some (some (true, d))) = if io.contains i then .stk else .ok (d, true) (δ.set i none) := id rfl
theorem e_C : gC d δ = .ok (d, false) δ := id rfl
theorem e_fin1 {q : PyData × Bool} : fin (some q) δ = .ok q δ := id rfl
def kBin2 (f : DOp) (x : PyData × Bool) (y : PyData × Bool) (δ : Sl) : EV := fin (f x.1 y.1) δ
def kBin1 (f : DOp) (gb : Sl → EV) (x : PyData × Bool) (δ : Sl) : EV := (gb δ).bind (kBin2 f x)
theorem e_bin : gBin f ga gb δ = (ga δ).bind (kBin1 f gb) := id rfl
theorem e_bin1 : kBin1 f gb (d, fr) δ = (gb δ).bind (kBin2 f (d, fr)) := id rfl
theorem e_bin2 : kBin2 f (d, fr) (e, fr') δ = fin (f d e) δ := id rfl
def kCh4 (f' : DOp) (y : PyData × Bool) (z : PyData × Bool) (δ : Sl) : EV := fin (f' y.1 z.1) δ
def kCh3 (f' : DOp) (gc : Sl → EV) (y : PyData × Bool) (δ : Sl) : Option (PyData × Bool) → EV
  | some (.bool true, _) => (gc δ).bind (kCh4 f' y)
  | some (.bool false, _) => .ok (.bool false, false) δ
  | _ => .stk
def kCh2 (f f' : DOp) (gc : Sl → EV) (x : PyData × Bool) (y : PyData × Bool) (δ : Sl) : EV := kCh3 f' gc y δ (f x.1 y.1)
def kCh1 (f f' : DOp) (gb gc : Sl → EV) (x : PyData × Bool) (δ : Sl) : EV := (gb δ).bind (kCh2 f f' gc x)
theorem e_chain : gChain f f' ga gb gc δ = (ga δ).bind (kCh1 f f' gb gc) := by
  unfold gChain
  congr 1 <;> skip
  all_goals
    try
      funext x δ1
      unfold kCh1
      congr 1
      funext y δ2
      unfold kCh2 kCh3
      split <;> rfl
theorem e_chain1 : kCh1 f f' gb gc (d, fr) δ = (gb δ).bind (kCh2 f f' gc (d, fr)) := id rfl
theorem e_chain2 : kCh2 f f' gc (d, fr) (e, fr') δ = kCh3 f' gc (e, fr') δ (f d e) := id rfl
theorem e_chain3 : kCh3 f' gc y δ (some (.bool true, fr)) = (gc δ).bind (kCh4 f' y) := id rfl
theorem e_chain4 : kCh3 f' gc y δ (some (.bool false, fr)) = .ok (.bool false, false) δ := id rfl
theorem e_chain5 : kCh4 f' (d, fr) (e, fr') δ = fin (f' d e) δ := id rfl
def kIf (ga gb : Sl → EV) (t : Bool) (δ : Sl) : EV := if t = true then ga δ else gb δ
theorem e_if : gIf gt ga gb δ = (gt δ).bind (kIf ga gb) := id rfl
theorem e_if1 : kIf ga gb true δ = ga δ := id rfl
theorem e_if2 : kIf ga gb false δ = gb δ := id rfl
def kTv (x : PyData × Bool) (δ : Sl) : R Sl Bool := match x.1 with
  | .bool b => .ok b δ
  | _ => .stk
theorem e_tv : gTv ga δ = (ga δ).bind kTv := id rfl
theorem e_tv1 {k : Bool} : kTv (.bool k, fr) δ = .ok k δ := id rfl
def kNotT (k : Bool) (δ : Sl) : R Sl Bool := .ok (!k) δ
theorem e_notT : gNotT gt δ = (gt δ).bind kNotT := id rfl
theorem e_notT1 {k : Bool} : kNotT k δ = .ok (!k) δ := id rfl
def kAndT (gu : Sl → R Sl Bool) (k : Bool) (δ : Sl) : R Sl Bool := if k = true then gu δ else .ok false δ
theorem e_andT : gAndT gt gu δ = (gt δ).bind (kAndT gu) := id rfl
theorem e_andT1 : kAndT gu true δ = gu δ := id rfl
theorem e_andT2 : kAndT gu false δ = .ok false δ := id rfl
def kOrT (gu : Sl → R Sl Bool) (k : Bool) (δ : Sl) : R Sl Bool := if k = true then .ok true δ else gu δ
theorem e_orT : gOrT gt gu δ = (gt δ).bind (kOrT gu) := id rfl
theorem e_orT1 : kOrT gu true δ = .ok true δ := id rfl
theorem e_orT2 : kOrT gu false δ = gu δ := id rfl
def kAndV (gb : Sl → EV) (x : PyData × Bool) (δ : Sl) : EV := match x.1 with
  | .bool true => gb δ
  | .bool false => .ok (.bool false, false) δ
  | _ => .stk
theorem e_andV : gAndV ga gb δ = (ga δ).bind (kAndV gb) := id rfl
theorem e_andV1 : kAndV gb (.bool true, fr) δ = gb δ := id rfl
theorem e_andV2 : kAndV gb (.bool false, fr) δ = .ok (.bool false, false) δ := id rfl
def kOrV (gb : Sl → EV) (x : PyData × Bool) (δ : Sl) : EV := match x.1 with
  | .bool true => .ok (.bool true, false) δ
  | .bool false => gb δ
  | _ => .stk
theorem e_orV : gOrV ga gb δ = (ga δ).bind (kOrV gb) := id rfl
theorem e_orV1 : kOrV gb (.bool true, fr) δ = .ok (.bool true, false) δ := id rfl
theorem e_orV2 : kOrV gb (.bool false, fr) δ = gb δ := id rfl
def kNotV (x : PyData × Bool) (δ : Sl) : EV := match x.1 with
  | .bool b => .ok (.bool (!b), false) δ
  | _ => .stk
theorem e_notV : gNotV ga δ = (ga δ).bind kNotV := id rfl
theorem e_notV1 {k : Bool} : kNotV (.bool k, fr) δ = .ok (.bool (!k), false) δ := id rfl
theorem e_aNil : gaNil δ = .ok [] δ := id rfl
def kCons2 (x : PyData × Bool) (xs : List PyData) (δ : Sl) : R Sl (List PyData) := .ok (x.1 :: xs) δ
def kCons1 (gr : Sl → R Sl (List PyData)) (x : PyData × Bool) (δ : Sl) : R Sl (List PyData) := (gr δ).bind (kCons2 x)
theorem e_aCons : gaCons ga gr δ = (ga δ).bind (kCons1 gr) := id rfl
theorem e_aCons1 : kCons1 gr x δ = (gr δ).bind (kCons2 x) := id rfl
theorem e_aCons2 : kCons2 (d, fr) xs δ = .ok (d :: xs) δ := id rfl
def kStar2 (ys : List PyData) (xs : List PyData) (δ : Sl) : R Sl (List PyData) := .ok (ys ++ xs) δ
def kStar1 (gr : Sl → R Sl (List PyData)) (x : PyData × Bool) (δ : Sl) : R Sl (List PyData) := match x.1 with
  | .list ys => (gr δ).bind (kStar2 ys)
  | .tuple ys => (gr δ).bind (kStar2 ys)
  | _ => .stk
theorem e_star : gaStar ga gr δ = (ga δ).bind (kStar1 gr) := id rfl
theorem e_star1 : kStar1 gr (.list ys, fr) δ = (gr δ).bind (kStar2 ys) := id rfl
theorem e_star2 : kStar1 gr (.tuple ys, fr) δ = (gr δ).bind (kStar2 ys) := id rfl
theorem e_star3 : kStar2 ys xs δ = .ok (ys ++ xs) δ := id rfl
def kLst (xs : List PyData) (δ : Sl) : EV := if xs.length ≤ LINE then .ok (.list xs, true) δ else .stk
theorem e_lst : DL.gLst gr δ = (gr δ).bind kLst := id rfl
theorem e_lst1 : kLst xs δ = if xs.length ≤ LINE then .ok (.list xs, true) δ else .stk := id rfl
def kTup (xs : List PyData) (δ : Sl) : EV := if xs.length ≤ LINE then .ok (.tuple xs, false) δ else .stk
theorem e_tup : DL.gTup gr δ = (gr δ).bind kTup := id rfl
theorem e_tup1 : kTup xs δ = if xs.length ≤ LINE then .ok (.tuple xs, false) δ else .stk := id rfl
def kCall (f : List PyData → Option (PyData × Bool)) (xs : List PyData) (δ : Sl) : EV := fin (f xs) δ
theorem e_call {f : List PyData → Option (PyData × Bool)} : gCall f gr δ = (gr δ).bind (kCall f) := id rfl
theorem e_call1 {f : List PyData → Option (PyData × Bool)} : kCall f xs δ = fin (f xs) δ := id rfl
def kSlot : Option (Option (Bool × PyData)) → Option PyData
  | some (some (_, d)) => some d
  | _ => none
theorem e_slot : slotD i δ = kSlot δ[i]? := by unfold slotD kSlot; split <;> simp_all
theorem e_slot1 : kSlot (some (some (fr, d))) = some d := id rfl
def kSB3 (δ : Sl) : Option (PyData × Bool) → EV
  | some (e, false) => .ok (e, false) δ
  | _ => .stk
def kSB2 (f : DOp) (y : PyData) (δ : Sl) : Option PyData → EV
  | some d => kSB3 δ (f d y)
  | none => .stk
def kSB1 (f : DOp) (i : Nat) (y : PyData × Bool) (δ : Sl) : EV := kSB2 f y.1 δ (slotD i δ)
def kSB0 (f : DOp) (i : Nat) (gb : Sl → EV) (δ : Sl) : Option PyData → EV
  | some _ => (gb δ).bind (kSB1 f i)
  | none => .stk
theorem e_sb : gSlotBin f i gb δ = kSB0 f i gb δ (slotD i δ) := by
  unfold gSlotBin kSB0
  split
  · rename_i h; rw [h]
  · rename_i d h
    rw [h]
    congr 1 <;> skip
    all_goals
      try
        funext y δ1
        unfold kSB1 kSB2 kSB3
        split
        · rename_i h1; rw [h1]; split <;> simp_all
        · rename_i h1; rw [h1]
theorem e_sb0 : kSB0 f i gb δ (some d) = (gb δ).bind (kSB1 f i) := id rfl
theorem e_sb1 : kSB1 f i (e, fr) δ = kSB2 f e δ (slotD i δ) := id rfl
theorem e_sb2 : kSB2 f e δ (some d) = kSB3 δ (f d e) := id rfl
theorem e_sb3 : kSB3 δ (some (e, false)) = .ok (e, false) δ := id rfl
def kBS2 (f : DOp) (x : PyData) (δ : Sl) : Option PyData → EV
  | some d => kSB3 δ (f x d)
  | none => .stk
def kBS1 (f : DOp) (i : Nat) (x : PyData × Bool) (δ : Sl) : EV := kBS2 f x.1 δ (slotD i δ)
theorem e_bs : gBinSlot f ga i δ = (ga δ).bind (kBS1 f i) := by
  unfold gBinSlot
  congr 1 <;> skip
  all_goals
    try
      funext x δ1
      unfold kBS1 kBS2 kSB3
      split
      · rename_i h; rw [h]; split <;> simp_all
      · rename_i h; rw [h]
theorem e_bs1 : kBS1 f i (e, fr) δ = kBS2 f e δ (slotD i δ) := id rfl
theorem e_bs2 : kBS2 f e δ (some d) = kSB3 δ (f e d) := id rfl
def kLenV (δ : Sl) : Option PyData → EV
  | some d => kSB3 δ (dLen [d])
  | none => .stk
theorem e_lenV : gLenV i δ = kLenV δ (slotD i δ) := by
  unfold gLenV kLenV kSB3
  split
  · rename_i h; rw [h]; split <;> simp_all
  · rename_i h; rw [h]
theorem e_lenV1 : kLenV δ (some d) = kSB3 δ (dLen [d]) := id rfl
def kUn (f : PyData → Option (PyData × Bool)) (x : PyData × Bool) (δ : Sl) : EV := fin (f x.1) δ
theorem e_un {f : PyData → Option (PyData × Bool)} : gUn f ga δ = (ga δ).bind (kUn f) := id rfl
theorem e_un1 {f : PyData → Option (PyData × Bool)} : kUn f (d, fr) δ = fin (f d) δ := id rfl
def kDef3 (js : List Nat) (δ : Sl) : R (List PyData) (PyData × Bool) → EV
  | .ok p outs => .ok (fixF p) (setMany δ js outs)
  | .exc c xs outs => .exc c xs (setMany δ js outs)
  | .stk => .stk
def kDef2 (f : List PyData → R (List PyData) (PyData × Bool)) (js : List Nat) (δ : Sl) : Option (List PyData) → EV
  | some ds => kDef3 js δ (f ds)
  | none => .stk
def kDef1 (f : List PyData → R (List PyData) (PyData × Bool)) (io : List Nat) (its : List It1) (δ : Sl) : EV :=
  if itP 0 its == io && nodupB (itJ its) then kDef2 f (itJ its) δ (itD δ its) else .stk
theorem e_def {f : List PyData → R (List PyData) (PyData × Bool)} {gi : Sl → R Sl (List It1)} : gDef f io gi δ = (gi δ).bind (kDef1 f io) := by
  unfold gDef
  congr 1 <;> skip
  all_goals
    try
      funext its δ1
      unfold kDef1 kDef2 kDef3
      split
      · split
        · rename_i h; rw [h]; dsimp only; split <;> simp_all
        · rename_i h; rw [h]
      · rfl
theorem e_def1 {f : List PyData → R (List PyData) (PyData × Bool)} {its : List It1} : kDef1 f io its δ = if itP 0 its == io && nodupB (itJ its) then kDef2 f (itJ its) δ (itD δ its) else .stk := id rfl
theorem e_def2 {f : List PyData → R (List PyData) (PyData × Bool)} {js : List Nat} : kDef2 f js δ (some xs) = kDef3 js δ (f xs) := id rfl
theorem e_def3 {js : List Nat} : kDef3 js δ (.ok x xs) = .ok (fixF x) (setMany δ js xs) := id rfl
theorem e_fix0 {d : PyData} : fixF (d, false) = (d, false) := by cases d <;> rfl
theorem e_fix2 {xs : List PyData} {b : Bool} : fixF (.tuple xs, b) = (.tuple xs, false) := id rfl
theorem e_fix1 {xs : List PyData} {b : Bool} : fixF (.list xs, b) = (.list xs, b) := id rfl
theorem e_def4 {js : List Nat} : kDef3 js δ (.exc c ys xs) = .exc c ys (setMany δ js xs) := id rfl
def kDef0 (δ : Sl) : R (List PyData) (PyData × Bool) → EV
  | .ok p _ => .ok (fixF p) δ
  | _ => .stk
theorem e_def0 {f : List PyData → R (List PyData) (PyData × Bool)} : gDef0 f δ = kDef0 δ (f []) := by unfold gDef0 kDef0; split <;> simp_all
theorem e_def01 : kDef0 δ (.ok x xs) = .ok (fixF x) δ := id rfl
theorem e_jNil : gjNil δ = .ok [] δ := id rfl
def kJ2 (x : It1) (xs : List It1) (δ : Sl) : R Sl (List It1) := .ok (x :: xs) δ
def kJ1 (gr : Sl → R Sl (List It1)) (x : PyData × Bool) (δ : Sl) : R Sl (List It1) := (gr δ).bind (kJ2 (.inl x.1))
theorem e_jVal {gr : Sl → R Sl (List It1)} : gjVal ga gr δ = (ga δ).bind (kJ1 gr) := id rfl
theorem e_jVal1 {gr : Sl → R Sl (List It1)} : kJ1 gr (d, fr) δ = (gr δ).bind (kJ2 (.inl d)) := id rfl
theorem e_j2 {z : It1} {zs : List It1} : kJ2 z zs δ = .ok (z :: zs) δ := id rfl
def kJio (j : Nat) (gr : Sl → R Sl (List It1)) (δ : Sl) : Option (Option (Bool × PyData)) → R Sl (List It1)
  | some (some (true, _)) => (gr δ).bind (kJ2 (.inr j))
  | _ => .stk
theorem e_jIo {gr : Sl → R Sl (List It1)} : gjIo j gr δ = kJio j gr δ δ[j]? := by
  unfold gjIo kJio
  split
  · rename_i h; rw [h]; rfl
  · split <;> simp_all
theorem e_jIo1 {gr : Sl → R Sl (List It1)} : kJio j gr δ (some (some (true, d))) = (gr δ).bind (kJ2 (.inr j)) := id rfl
theorem e_itD0 : itD δ [] = some [] := id rfl
theorem e_itD1 {its : List It1} : itD δ (.inl d :: its) = (itD δ its).map (d :: ·) := id rfl
def kItD (δ : Sl) (its : List It1) : Option (Option (Bool × PyData)) → Option (List PyData)
  | some (some (true, d)) => (itD δ its).map (d :: ·)
  | _ => none
theorem e_itD2 {its : List It1} : itD δ (.inr j :: its) = kItD δ its δ[j]? := by
  show (match δ[j]? with | some (some (true, d)) => (itD δ its).map (d :: ·) | _ => none) = _
  unfold kItD
  split <;> simp_all
theorem e_itD3 {its : List It1} : kItD δ its (some (some (true, d))) = (itD δ its).map (d :: ·) := id rfl
theorem e_itJ0 : itJ [] = [] := id rfl
theorem e_itJ1 {its : List It1} : itJ (.inl d :: its) = itJ its := id rfl
theorem e_itJ2 {its : List It1} : itJ (.inr j :: its) = j :: itJ its := id rfl
theorem e_itP0 : itP i [] = [] := id rfl
theorem e_itP1 {its : List It1} : itP i (.inl d :: its) = itP (i + 1) its := id rfl
theorem e_itP2 {its : List It1} : itP i (.inr j :: its) = i :: itP (i + 1) its := id rfl
theorem e_setMany0 : setMany δ [] xs = δ := by cases xs <;> rfl
theorem e_setMany1 {js : List Nat} : setMany δ (j :: js) (d :: xs) = setMany (δ.set j (some (true, d))) js xs := id rfl
theorem e_nodup0 : nodupB [] = true := id rfl
theorem e_nodup1 {js : List Nat} : nodupB (j :: js) = (!js.contains j && nodupB js) := id rfl
/-! slices -/
theorem e_noPart : gNoPart δ = .ok none δ := id rfl
def kPart (x : PyData × Bool) (δ : Sl) : R Sl (Option Int) := match x.1 with
  | .int i => .ok (some i) δ
  | _ => .stk
theorem e_part : gPart ga δ = (ga δ).bind kPart := id rfl
theorem e_part1 {k : Int} : kPart (.int k, fr) δ = .ok (some k) δ := id rfl
def kSl3 (x : PyData × Bool) (l : Option Int) (h : Option Int) (δ : Sl) : EV := fin (dSlice x.1 l h) δ
def kSl2 (gh : Sl → R Sl (Option Int)) (x : PyData × Bool) (l : Option Int) (δ : Sl) : EV := (gh δ).bind (kSl3 x l)
def kSl1 (gl gh : Sl → R Sl (Option Int)) (x : PyData × Bool) (δ : Sl) : EV := (gl δ).bind (kSl2 gh x)
theorem e_slice {gl gh : Sl → R Sl (Option Int)} : gSlice ga gl gh δ = (ga δ).bind (kSl1 gl gh) := id rfl
theorem e_slice1 {gl gh : Sl → R Sl (Option Int)} : kSl1 gl gh x δ = (gl δ).bind (kSl2 gh x) := id rfl
theorem e_slice2 {gh : Sl → R Sl (Option Int)} {l : Option Int} : kSl2 gh x l δ = (gh δ).bind (kSl3 x l) := id rfl
theorem e_slice3 {l h : Option Int} : kSl3 (d, fr) l h δ = fin (dSlice d l h) δ := id rfl
def kRg3 (x y : PyData) (δ : Sl) : EV := match x, y with
  | .int i, .int j => if rgOk i j then .ok (.list (rgD i j), true) δ else .stk
  | _, _ => .stk
def kRg2 (x : PyData × Bool) (y : PyData × Bool) (δ : Sl) : EV := kRg3 x.1 y.1 δ
def kRg1 (gb : Sl → EV) (x : PyData × Bool) (δ : Sl) : EV := (gb δ).bind (kRg2 x)
theorem e_lstRg : gLstRg ga gb δ = (ga δ).bind (kRg1 gb) := id rfl
theorem e_lstRg1 : kRg1 gb x δ = (gb δ).bind (kRg2 x) := id rfl
theorem e_lstRg2 {k l : Int} : kRg2 (.int k, fr) (.int l, fr') δ = if rgOk k l then .ok (.list (rgD k l), true) δ else .stk := id rfl
/-! sources -/
def kSeqI2 (δ : Sl) : Option (List PyData) → R Sl (List PyData)
  | some ds => .ok ds δ
  | none => .stk
def kSeqI (x : PyData × Bool) (δ : Sl) : R Sl (List PyData) := kSeqI2 δ (seqOf x.1)
theorem e_iSeq : giSeq ga δ = (ga δ).bind kSeqI := by
  unfold giSeq
  congr 1 <;> skip
  all_goals
    try
      funext x δ1
      unfold kSeqI kSeqI2
      split <;> simp_all
theorem e_iSeq1 : kSeqI (d, fr) δ = kSeqI2 δ (seqOf d) := id rfl
theorem e_iSeq2 : kSeqI2 δ (some xs) = .ok xs δ := id rfl
def kEn2 (δ : Sl) : Option (List PyData) → R Sl (List PyData)
  | some ds => .ok (enumD 0 ds) δ
  | none => .stk
def kEn (x : PyData × Bool) (δ : Sl) : R Sl (List PyData) := kEn2 δ (lstOf x.1)
theorem e_iEn : giEnum ga δ = (ga δ).bind kEn := by
  unfold giEnum
  congr 1 <;> skip
  all_goals
    try
      funext x δ1
      unfold kEn kEn2
      split <;> simp_all
theorem e_iEn1 : kEn (d, fr) δ = kEn2 δ (lstOf d) := id rfl
theorem e_iEn2 : kEn2 δ (some xs) = .ok (enumD 0 xs) δ := id rfl
def kR1 (xs : List PyData) (δ : Sl) : R Sl (List PyData) := match xs with
  | [.int j] => if -1000000 ≤ j ∧ j ≤ 16777216 then .ok (rgN 0 j.toNat) δ else .stk
  | _ => .stk
theorem e_iR1 : giRg1 gr δ = (gr δ).bind kR1 := id rfl
theorem e_iR11 {j : Int} : kR1 [.int j] δ = if -1000000 ≤ j ∧ j ≤ 16777216 then .ok (rgN 0 j.toNat) δ else .stk := id rfl
def kR2 (xs : List PyData) (δ : Sl) : R Sl (List PyData) := match xs with
  | [.int i, .int j] => if rgOk i j then .ok (rgN i (j - i).toNat) δ else .stk
  | _ => .stk
theorem e_iR2 : giRg2 gr δ = (gr δ).bind kR2 := id rfl
theorem e_iR21 {i j : Int} : kR2 [.int i, .int j] δ = if rgOk i j then .ok (rgN i (j - i).toNat) δ else .stk := id rfl
theorem e_yes : gYes δ = .ok true δ := id rfl
/-! comprehensions -/
def kLc2 (vs : List Nat) (δ1 : Sl) : R Sl (List PyData) → EV
  | .ok acc δ2 => if noneOwn δ2 vs then .ok (.list acc, true) (backD δ1 vs δ2) else .stk
  | _ => .stk
def kLc1 (vs : List Nat) (tgt : PyData → Bool → Sl → Option Sl) (gt : Sl → R Sl Bool) (ge : Sl → EV) (ds : List PyData) (δ1 : Sl) : EV :=
  if noneOwn δ1 vs && decide (ds.length ≤ LINE) then kLc2 vs δ1 (lcD vs tgt gt ge ds [] (wipeD δ1 vs)) else .stk
theorem e_lc {vs : List Nat} {gi : Sl → R Sl (List PyData)} {tgt : PyData → Bool → Sl → Option Sl} : gLc vs gi tgt gt ga δ = (gi δ).bind (kLc1 vs tgt gt ga) := by
  unfold gLc
  congr 1 <;> skip
  all_goals
    try
      funext ds δ1
      unfold kLc1 kLc2
      split
      · split <;> simp_all
      · rfl
theorem e_lc1 {vs : List Nat} {tgt : PyData → Bool → Sl → Option Sl} : kLc1 vs tgt gt ga xs δ = if noneOwn δ vs && decide (xs.length ≤ LINE) then kLc2 vs δ (lcD vs tgt gt ga xs [] (wipeD δ vs)) else .stk := id rfl
theorem e_lc2 {vs : List Nat} : kLc2 vs δ (.ok xs δ1) = if noneOwn δ1 vs then .ok (.list xs, true) (backD δ vs δ1) else .stk := id rfl
theorem e_wipe0 : wipeD δ [] = δ := id rfl
theorem e_wipe1 {vs : List Nat} : wipeD δ (i :: vs) = (wipeD δ vs).set i none := id rfl
theorem e_back0 : backD δ [] δ1 = δ1 := id rfl
def kBack (i : Nat) (δ : Sl) : Option (Option (Bool × PyData)) → Sl
  | some x => δ.set i x
  | none => δ
theorem e_back1 {vs : List Nat} : backD δ (i :: vs) δ1 = kBack i (backD δ vs δ1) δ[i]? := by
  show (match δ[i]? with | some x => (backD δ vs δ1).set i x | none => backD δ vs δ1) = _
  unfold kBack
  split <;> simp_all
theorem e_back2 {x : Option (Bool × PyData)} : kBack i δ (some x) = δ.set i x := id rfl
theorem e_noneOwn0 : noneOwn δ [] = true := id rfl
def kNO : Option (Option (Bool × PyData)) → Bool
  | some (some (true, _)) => false
  | _ => true
theorem e_noneOwn1 {vs : List Nat} : noneOwn δ (i :: vs) = (kNO δ[i]? && noneOwn δ vs) := by
  show ((match δ[i]? with | some (some (true, _)) => false | _ => true) && noneOwn δ vs) = _
  congr 1 <;> skip
  all_goals
    try
      unfold kNO
      split <;> simp_all
theorem e_noneOwn2 : kNO (some none) = true := id rfl
theorem e_noneOwn3 : kNO (some (some (false, d))) = true := id rfl
theorem e_noneOwn4 : kNO (some (some (true, d))) = false := id rfl
/-! targets -/
theorem e_name : gtName io i d fr δ = setSlot io i (some (fr, d)) δ := id rfl
theorem e_set {z : Option (Bool × PyData)} : setSlot io i z δ = if io.contains i || decide (δ.length ≤ i) then none else some (δ.set i z) := id rfl
theorem e_tNil : gtNil [] δ = some δ := id rfl
def kTC (gs : List PyData → Sl → Option Sl) (xs : List PyData) : Option Sl → Option Sl
  | some δ => gs xs δ
  | none => none
theorem e_tCons {g : PyData → Bool → Sl → Option Sl} {gs : List PyData → Sl → Option Sl} : gtCons g gs (d :: xs) δ = kTC gs xs (g d false δ) := by
  show (g d false δ).bind (fun δ1 => gs xs δ1) = _
  cases g d false δ <;> rfl
theorem e_tCons1 {gs : List PyData → Sl → Option Sl} : kTC gs xs (some δ) = gs xs δ := id rfl
theorem e_tTup {gs : List PyData → Sl → Option Sl} : gtTup gs (.tuple xs) fr δ = gs xs δ := id rfl
/-! statements -/
variable {g h : Sl → SV} {fl : Fl}
def kSeq (h : Sl → SV) : SV → SV
  | .ok .nx δ => h δ
  | r => r
theorem e_seq : sSeq g h δ = kSeq h (g δ) := by unfold sSeq kSeq; split <;> simp_all
theorem e_seq1 : kSeq h (.ok .nx δ) = h δ := id rfl
theorem e_seq2 : kSeq h (.ok (.rt d fr) δ) = .ok (.rt d fr) δ := id rfl
theorem e_seq3 : kSeq h (.ok .bk δ) = .ok .bk δ := id rfl
theorem e_seq4 : kSeq h (.ok .ct δ) = .ok .ct δ := id rfl
theorem e_seq5 : kSeq h (.exc c xs δ) = .exc c xs δ := id rfl
theorem e_next : sNext δ = .ok .nx δ := id rfl
theorem e_break : sBreak δ = .ok .bk δ := id rfl
theorem e_cont : sCont δ = .ok .ct δ := id rfl
def kExpr (x : PyData × Bool) (δ : Sl) : SV := .ok .nx δ
theorem e_expr : sExpr ga δ = (ga δ).bind kExpr := id rfl
theorem e_expr1 : kExpr x δ = .ok .nx δ := id rfl
def kRet (x : PyData × Bool) (δ : Sl) : SV := .ok (.rt x.1 x.2) δ
theorem e_ret : sRet ga δ = (ga δ).bind kRet := id rfl
theorem e_ret1 : kRet (d, fr) δ = .ok (.rt d fr) δ := id rfl
def kSIf (g h : Sl → SV) (k : Bool) (δ : Sl) : SV := if k = true then g δ else h δ
theorem e_sIf : sIf gt g h δ = (gt δ).bind (kSIf g h) := id rfl
theorem e_sIf1 : kSIf g h true δ = g δ := id rfl
theorem e_sIf2 : kSIf g h false δ = h δ := id rfl
def kAsg2 : Option Sl → SV
  | some δ => .ok .nx δ
  | none => .stk
def kAsg1 (g : PyData → Bool → Sl → Option Sl) (x : PyData × Bool) (δ : Sl) : SV := kAsg2 (g x.1 x.2 δ)
theorem e_asg {g : PyData → Bool → Sl → Option Sl} : sAsg ga g δ = (ga δ).bind (kAsg1 g) := by
  unfold sAsg
  congr 1 <;> skip
  all_goals
    try
      funext x δ1
      unfold kAsg1 kAsg2
      split <;> simp_all
theorem e_asg1 {g : PyData → Bool → Sl → Option Sl} : kAsg1 g (d, fr) δ = kAsg2 (g d fr δ) := id rfl
theorem e_asg2 : kAsg2 (some δ) = .ok .nx δ := id rfl
def kAug3 (io : List Nat) (i : Nat) (δ : Sl) : Option (PyData × Bool) → SV
  | some (e, false) => kAsg2 (setSlot io i (some (false, e)) δ)
  | _ => .stk
def kAug2 (io : List Nat) (i : Nat) (f : DOp) (y : PyData) (δ : Sl) : Option (Option (Bool × PyData)) → SV
  | some (some (false, d)) => kAug3 io i δ (f d y)
  | _ => .stk
def kAug1 (io : List Nat) (i : Nat) (f : DOp) (y : PyData × Bool) (δ : Sl) : SV := kAug2 io i f y.1 δ δ[i]?
def kAug0 (io : List Nat) (i : Nat) (f : DOp) (ga : Sl → EV) (δ : Sl) : Option (Option (Bool × PyData)) → SV
  | some (some (false, _)) => (ga δ).bind (kAug1 io i f)
  | _ => .stk
theorem e_aug : sAug io i f ga δ = kAug0 io i f ga δ δ[i]? := by
  unfold sAug kAug0
  split
  · rename_i d h
    rw [h]
    dsimp only
    congr 1 <;> skip
    all_goals
      try
        funext y δ1
        unfold kAug1 kAug2
        split
        · rename_i d' h'
          rw [h']
          dsimp only
          unfold kAug3 kAsg2
          split
          · split <;> simp_all
          · split <;> simp_all
        · split <;> simp_all
  · split <;> simp_all
theorem e_aug0 : kAug0 io i f ga δ (some (some (false, d))) = (ga δ).bind (kAug1 io i f) := id rfl
theorem e_aug1 : kAug1 io i f (e, fr) δ = kAug2 io i f e δ δ[i]? := id rfl
theorem e_aug2 : kAug2 io i f e δ (some (some (false, d))) = kAug3 io i δ (f d e) := id rfl
theorem e_aug3 : kAug3 io i δ (some (e, false)) = kAsg2 (setSlot io i (some (false, e)) δ) := id rfl
def kPar3 (io : List Nat) (i j : Nat) (x y : PyData × Bool) (δ : Sl) : SV := match setSlot io i (some (x.2, x.1)) δ with
  | some δ2 => kAsg2 (setSlot io j (some (y.2, y.1)) δ2)
  | none => .stk
def kPar2 (io : List Nat) (i j : Nat) (x : PyData × Bool) (y : PyData × Bool) (δ : Sl) : SV := kPar3 io i j x y δ
def kPar1 (io : List Nat) (i j : Nat) (gb : Sl → EV) (x : PyData × Bool) (δ : Sl) : SV := (gb δ).bind (kPar2 io i j x)
theorem e_par : sPar io i j ga gb δ = (ga δ).bind (kPar1 io i j gb) := by
  unfold sPar gPair
  cases h1 : ga δ with
  | exc c xs d => simp [R.bind]
  | stk => simp [R.bind]
  | ok x δ1 =>
    simp only [R.bind, kPar1]
    cases h2 : gb δ1 with
    | exc c xs d => simp [R.bind]
    | stk => simp [R.bind]
    | ok y δ2 =>
      simp only [R.bind, kPar2, kPar3]
      split
      · rename_i q
        rw [q]
        unfold kAsg2
        split <;> simp_all
      · rename_i q
        rw [q]
theorem e_par1 : kPar1 io i j gb x δ = (gb δ).bind (kPar2 io i j x) := id rfl
theorem e_par2 : kPar2 io i j (d, fr) (e, fr') δ = match setSlot io i (some (fr, d)) δ with
  | some δ2 => kAsg2 (setSlot io j (some (fr', e)) δ2)
  | none => .stk := id rfl
def kApp2 (i : Nat) (y : PyData) (δ : Sl) : Option (Option (Bool × PyData)) → SV
  | some (some (true, .list ds)) => if ds.length < LINE then .ok .nx (δ.set i (some (true, .list (ds ++ [y])))) else .stk
  | _ => .stk
def kApp1 (i : Nat) (y : PyData × Bool) (δ : Sl) : SV := kApp2 i y.1 δ δ[i]?
def kApp0 (i : Nat) (ga : Sl → EV) (δ : Sl) : Option (Option (Bool × PyData)) → SV
  | some (some (true, .list _)) => (ga δ).bind (kApp1 i)
  | _ => .stk
theorem e_app : sAppend i ga δ = kApp0 i ga δ δ[i]? := by
  unfold sAppend kApp0
  split
  · rename_i ds h
    rw [h]
    dsimp only
    congr 1 <;> skip
    all_goals
      try
        funext y δ1
        unfold kApp1 kApp2
        split <;> simp_all
  · split <;> simp_all
theorem e_app0 : kApp0 i ga δ (some (some (true, .list xs))) = (ga δ).bind (kApp1 i) := id rfl
theorem e_app1 : kApp1 i (e, fr) δ = kApp2 i e δ δ[i]? := id rfl
theorem e_app2 : kApp2 i e δ (some (some (true, .list xs))) = if xs.length < LINE then .ok .nx (δ.set i (some (true, .list (xs ++ [e])))) else .stk := id rfl
def kSet4 (i : Nat) (x : PyData) (ds : List PyData) (δ : Sl) : Option Nat → SV
  | some j => .ok .nx (δ.set i (some (true, .list (ds.set j x))))
  | none => .stk
def kSet3 (i : Nat) (x : PyData) (y : PyData) (δ : Sl) (o : Option (Option (Bool × PyData))) : SV := match o, y with
  | some (some (true, .list ds)), .int k => kSet4 i x ds δ (L2.ixN ds.length k)
  | _, _ => .stk
def kSet2 (i : Nat) (x : PyData) (y : PyData × Bool) (δ : Sl) : SV := kSet3 i x y.1 δ δ[i]?
def kSet1 (i : Nat) (gb : Sl → EV) (x : PyData) (δ : Sl) : Option (Option (Bool × PyData)) → SV
  | some (some (true, .list _)) => (gb δ).bind (kSet2 i x)
  | _ => .stk
def kSet0 (i : Nat) (gb : Sl → EV) (x : PyData × Bool) (δ : Sl) : SV := kSet1 i gb x.1 δ δ[i]?
theorem e_setIx : sSetIx i ga gb δ = (ga δ).bind (kSet0 i gb) := by
  unfold sSetIx
  congr 1 <;> skip
  all_goals
    try
      funext x δ1
      unfold kSet0 kSet1
      split
      · rename_i ds h
        rw [h]
        dsimp only
        congr 1
        funext y δ2
        unfold kSet2 kSet3
        split
        · rename_i ds' k h1 h2
          rw [h1, h2]
          dsimp only
          unfold kSet4
          split <;> simp_all
        · split <;> simp_all
      · split <;> simp_all
theorem e_setIx0 : kSet0 i gb (d, fr) δ = kSet1 i gb d δ δ[i]? := id rfl
theorem e_setIx1 : kSet1 i gb d δ (some (some (true, .list xs))) = (gb δ).bind (kSet2 i d) := id rfl
theorem e_setIx2 : kSet2 i d (e, fr) δ = kSet3 i d e δ δ[i]? := id rfl
theorem e_setIx3 {k : Int} : kSet3 i d (.int k) δ (some (some (true, .list xs))) = kSet4 i d xs δ (L2.ixN xs.length k) := id rfl
theorem e_setIx4 : kSet4 i d xs δ (some j) = .ok .nx (δ.set i (some (true, .list (xs.set j d)))) := id rfl
def kMt (m : Str → Sl → SV) (v : PyData × Bool) (δ : Sl) : SV := match v.1 with
  | .str x => m x δ
  | _ => .stk
theorem e_match {m : Str → Sl → SV} : sMatch ga m δ = (ga δ).bind (kMt m) := id rfl
theorem e_match1 {m : Str → Sl → SV} {z : Str} : kMt m (.str z, fr) δ = m z δ := id rfl
theorem e_mCase {m : Str → Sl → SV} {z lit : Str} : mCase lit g m z δ = if z = lit then g δ else m z δ := id rfl
theorem e_mAny {z : Str} : mAny g z δ = g δ := id rfl
theorem e_raise : sRaise c δ = .exc c [] δ := id rfl
theorem e_for {gi : Sl → R Sl (List PyData)} {tgt : PyData → Bool → Sl → Option Sl} : sFor gi tgt g δ = (gi δ).bind (forD tgt g) := id rfl
/-! defs -/
def kBody2 (p : PyData × Bool) : Option (List PyData) → R (List PyData) (PyData × Bool)
  | some outs => .ok p outs
  | none => .stk
def kBody3 (c : Nat) (xs : List PyData) : Option (List PyData) → R (List PyData) (PyData × Bool)
  | some outs => .exc c xs outs
  | none => .stk
def kBody (io : List Nat) : SV → R (List PyData) (PyData × Bool)
  | .ok .nx δ => kBody2 (.none, false) (outsD δ io)
  | .ok (.rt d fr) δ => kBody2 (d, fr) (outsD δ io)
  | .exc c xs δ => kBody3 c xs (outsD δ io)
  | _ => .stk
theorem e_body {N : Nat} : bodyF io N g xs = kBody io (g (startD io 0 xs ++ List.replicate (N - xs.length) none)) := by
  unfold bodyF kBody
  split
  · rename_i δ q; rw [q]; dsimp only; unfold kBody2; split <;> simp_all
  · rename_i d fr δ q; rw [q]; dsimp only; unfold kBody2; split <;> simp_all
  · rename_i c xs δ q; rw [q]; dsimp only; unfold kBody3; split <;> simp_all
  · first | rfl | (split <;> simp_all)
theorem e_body1 : kBody io (.ok .nx δ) = kBody2 (.none, false) (outsD δ io) := id rfl
theorem e_body2 : kBody io (.ok (.rt d fr) δ) = kBody2 (d, fr) (outsD δ io) := id rfl
theorem e_body3 : kBody io (.exc c xs δ) = kBody3 c xs (outsD δ io) := id rfl
theorem e_body4 : kBody2 x (some xs) = .ok x xs := id rfl
theorem e_body5 : kBody3 c ys (some xs) = .exc c ys xs := id rfl
theorem e_outs0 : outsD δ [] = some [] := id rfl
def kOuts (δ : Sl) (r : List Nat) : Option (Option (Bool × PyData)) → Option (List PyData)
  | some (some (true, d)) => (outsD δ r).map (d :: ·)
  | _ => none
theorem e_outs1 {r : List Nat} : outsD δ (i :: r) = kOuts δ r δ[i]? := by
  show (match δ[i]? with | some (some (true, d)) => (outsD δ r).map (d :: ·) | _ => none) = _
  unfold kOuts
  split <;> simp_all
theorem e_outs2 {r : List Nat} : kOuts δ r (some (some (true, d))) = (outsD δ r).map (d :: ·) := id rfl
theorem e_start0 : startD io i [] = [] := id rfl
theorem e_start1 : startD io i (d :: xs) = some (io.contains i, d) :: startD io (i + 1) xs := id rfl
/-! values -/
theorem e_addI {k l : Int} : dAdd (.int k) (.int l) = some (.int (k + l), false) := id rfl
theorem e_addL : dAdd (.list xs) (.list ys) = if xs.length + ys.length ≤ LINE then some (.list (xs ++ ys), true) else none := id rfl
theorem e_addI2 {k l : Int} : dAddI (.int k) (.int l) = some (.int (k + l), false) := id rfl
theorem e_sub {k l : Int} : dSub (.int k) (.int l) = some (.int (k - l), false) := id rfl
theorem e_cmp {p : Int → Int → Bool} {k l : Int} : dCmp p (.int k) (.int l) = some (.bool (p k l), false) := id rfl
theorem e_eqI {k l : Int} : dEq (.int k) (.int l) = some (.bool (k == l), false) := id rfl
theorem e_neI {k l : Int} : dNe (.int k) (.int l) = some (.bool (!(k == l)), false) := id rfl
theorem e_eqS {k l : Str} (h1 : PyData.strOk k = true) (h2 : PyData.strOk l = true) : dEq (.str k) (.str l) = some (.bool (k == l), false) := by simp [dEq, SeqAt.shaped, PyData.canLay0, PyData.depth, PyData.eqv, h1, h2]
theorem e_neS {k l : Str} (h1 : PyData.strOk k = true) (h2 : PyData.strOk l = true) : dNe (.str k) (.str l) = some (.bool (!(k == l)), false) := by simp [dNe, SeqAt.shaped, PyData.canLay0, PyData.depth, PyData.eqv, h1, h2]
theorem e_eqB {k l : Bool} : dEq (.bool k) (.bool l) = some (.bool (k == l), false) := id rfl
theorem e_isN0 : dIs .none .none = some (.bool true, false) := id rfl
theorem e_isN1 {k : Int} : dIs (.int k) .none = some (.bool false, false) := id rfl
theorem e_isN2 : dIs (.tuple xs) .none = some (.bool false, false) := id rfl
theorem e_isN3 : dIs (.list xs) .none = some (.bool false, false) := id rfl
theorem e_notN0 : dIsN .none .none = some (.bool false, false) := id rfl
theorem e_notN1 {k : Int} : dIsN (.int k) .none = some (.bool true, false) := id rfl
theorem e_notN2 : dIsN (.tuple xs) .none = some (.bool true, false) := id rfl
theorem e_notN3 : dIsN (.list xs) .none = some (.bool true, false) := id rfl
theorem e_int {k : Int} : dInt [.int k] = some (.int k, false) := id rfl
theorem e_intB {k : Bool} : dInt [.bool k] = some (.int (if k then 1 else 0), false) := id rfl
theorem e_max {k l : Int} : dMax2 [.int k, .int l] = some (.int (if l > k then l else k), false) := id rfl
theorem e_min {k l : Int} : dMin2 [.int k, .int l] = some (.int (if l < k then l else k), false) := id rfl
theorem e_neg {k : Int} : dNeg (.int k) = some (.int (-k), false) := id rfl
theorem e_bits {k : Int} : dBits (.int k) = some (.int (Builtin.Int.intBits k : Nat), false) := id rfl
theorem e_lenL : dLen [.list xs] = some (.int xs.length, false) := id rfl
theorem e_lenT : dLen [.tuple xs] = some (.int xs.length, false) := id rfl
theorem e_lenS : dLen [.dict [(.bool true, .list xs)]] = some (.int xs.length, false) := id rfl
theorem e_ixL {k : Int} : dIx (.list xs) (.int k) = (L2.atI xs k).map (·, false) := id rfl
theorem e_ixT {k : Int} : dIx (.tuple xs) (.int k) = (L2.atI xs k).map (·, false) := id rfl
theorem e_ixS {k : Int} : dIx (.dict [(.bool true, .list xs)]) (.int k) = (L2.atI xs k).map (·, false) := id rfl
theorem e_at0 : L2.atI (d :: xs) 0 = some d := by simp [L2.atI, L2.ixN]
theorem e_at1 {z : PyData} : L2.atI (d :: z :: xs) 1 = some z := by
  have : (1 : Int) < (xs.length : Int) + 1 + 1 := by omega
  simp [L2.atI, L2.ixN, this]
theorem e_at2 {z u : PyData} : L2.atI (d :: z :: u :: xs) 2 = some u := by
  have : (2 : Int) < (xs.length : Int) + 1 + 1 + 1 := by omega
  simp [L2.atI, L2.ixN, this]
theorem e_map {α β : Type} {z : α} {m : α → β} : (some z).map m = some (m z) := id rfl
theorem e_lstOf : lstOf (.list xs) = some xs := id rfl
theorem e_lstOfS : lstOf (.dict [(.bool true, .list xs)]) = some xs := id rfl
theorem e_seqOf : seqOf (.list xs) = some xs := id rfl
theorem e_seqOfT : seqOf (.tuple xs) = some xs := id rfl
theorem e_seqOfS : seqOf (.dict [(.bool true, .list xs)]) = some xs := id rfl
theorem e_isiIB {k : Int} : dIsi [.int k, .dict [(.bool false, .int (-2))]] = some (.bool false, false) := id rfl
theorem e_isiII {k : Int} : dIsi [.int k, .dict [(.bool false, .int (-1))]] = some (.bool true, false) := id rfl
theorem e_isiTT : dIsi [.tuple xs, .dict [(.bool false, .int (-4))]] = some (.bool true, false) := id rfl
theorem e_isiLL : dIsi [.list xs, .dict [(.bool false, .int (-5))]] = some (.bool true, false) := id rfl
end
end DL

namespace DL
open PySem PySem.Spec
open PyProof.Rows hiding St
structure Sm (k j : Nat) (d : PyData) : Prop where
  s : d.showable = true
  n : d.hasDict = false
  c : d.canLay0 = true
  p : d.depth ≤ j
  l : d.shown.length ≤ k
theorem Sm.mono {k k' j j' : Nat} {d : PyData} (h : Sm k j d) (hk : k ≤ k') (hj : j ≤ j') : Sm k' j' d := ⟨h.s, h.n, h.c, Nat.le_trans h.p hj, Nat.le_trans h.l hk⟩
theorem Sm.repr {k j : Nat} {d : PyData} (h : Sm k j d) (hk : k ≤ LINE) (hj : j ≤ 64) : dRepr [d] = some (.str d.shown, false) := by
  have e : (d.showable && !d.hasDict && d.canLay0 && decide (d.depth ≤ 64) && decide (d.shown.length ≤ LINE)) = true := by
    rw [h.s, h.n, h.c, decide_eq_true (Nat.le_trans h.p hj), decide_eq_true (Nat.le_trans h.l hk)]
    rfl
  show (if (d.showable && !d.hasDict && d.canLay0 && decide (d.depth ≤ 64) && decide (d.shown.length ≤ LINE)) = true then some (PyData.str d.shown, false) else none) = _
  rw [if_pos e]
theorem Sm.none : Sm 4 0 .none := ⟨rfl, rfl, rfl, Nat.le_refl _, by rw [PyData.shown_none]; decide⟩
theorem Sm.int {i : Int} (h : i.natAbs < 10 ^ 12) : Sm 13 0 (.int i) := by
  refine ⟨?_, rfl, rfl, Nat.le_refl _, PyData.shown_int_le h⟩
  have a : i.natAbs.log2 < 1920 := by
    by_cases z : i.natAbs = 0
    · rw [z]; decide
    · refine (Nat.log2_lt z).mpr (Nat.lt_of_lt_of_le h ?_)
      exact Nat.le_trans (by decide : 10 ^ 12 ≤ 2 ^ 40) (Nat.pow_le_pow_right (by omega) (by omega))
  simp [PyData.showable, a]
theorem Sm.all {k j : Nat} : ∀ {xs : List PyData}, (∀ x ∈ xs, Sm k j x) → PyData.showableAll xs = true ∧ PyData.hasDictAll xs = false ∧ PyData.canLayAll0 xs = true ∧ PyData.depthAll xs ≤ j ∧ ((PyData.shownAll xs).map (·.length)).sum ≤ xs.length * k ∧ (PyData.shownAll xs).length = xs.length
  | [], _ => ⟨rfl, rfl, rfl, Nat.zero_le _, by simp [PyData.shownAll], rfl⟩
  | x :: r, h => by
    obtain ⟨a1, a2, a3, a4, a5, a6⟩ := Sm.all (xs := r) fun y hy => h y (List.mem_cons_of_mem _ hy)
    have b := h x (List.mem_cons_self ..)
    refine ⟨?_, ?_, ?_, ?_, ?_, ?_⟩
    · simp only [PyData.showableAll, b.s, a1, Bool.and_self]
    · simp only [PyData.hasDictAll, b.n, a2, Bool.or_self]
    · simp only [PyData.canLayAll0, b.c, a3, Bool.and_self]
    · simp only [PyData.depthAll]
      exact Nat.max_le.mpr ⟨b.p, a4⟩
    · have := b.l
      simp only [PyData.shownAll, List.map_cons, List.sum_cons, List.length_cons, Nat.add_mul, Nat.one_mul]
      omega
    · simp only [PyData.shownAll, List.length_cons, a6]
theorem Sm.list {k j : Nat} {xs : List PyData} (h : ∀ x ∈ xs, Sm k j x) : Sm (xs.length * k + 2 * xs.length + 3) (j + 1) (.list xs) := by
  obtain ⟨a1, a2, a3, a4, a5, a6⟩ := Sm.all h
  refine ⟨by simpa [PyData.showable] using a1, by simpa [PyData.hasDict] using a2, by simpa [PyData.canLay0] using a3, by simp only [PyData.depth]; omega, ?_⟩
  have := listText_len_le (PyData.shownAll xs)
  simp only [PyData.shown]
  omega
theorem Sm.tuple {k j : Nat} {xs : List PyData} (h : ∀ x ∈ xs, Sm k j x) : Sm (xs.length * k + 2 * xs.length + 3) (j + 1) (.tuple xs) := by
  obtain ⟨a1, a2, a3, a4, a5, a6⟩ := Sm.all h
  refine ⟨by simpa [PyData.showable] using a1, by simpa [PyData.hasDict] using a2, by simpa [PyData.canLay0] using a3, by simp only [PyData.depth]; omega, ?_⟩
  have := tupleText_len_le (PyData.shownAll xs)
  simp only [PyData.shown]
  omega
theorem e_eqAS {k l : Str} : dEqA (.str k) (.str l) = some (.bool (decide (k = l)), false) := id rfl
theorem e_neAS {k l : Str} : dNeA (.str k) (.str l) = some (.bool (!decide (k = l)), false) := id rfl
theorem e_eqAI {k l : Int} : dEqA (.int k) (.int l) = some (.bool (k == l), false) := id rfl
theorem e_neAI {k l : Int} : dNeA (.int k) (.int l) = some (.bool (!(k == l)), false) := id rfl
theorem e_eqAT {xs : List PyData} {y : PyData} : dEqA (.tuple xs) y = dEq (.tuple xs) y := id rfl
theorem e_neAT {xs : List PyData} {y : PyData} : dNeA (.tuple xs) y = dNe (.tuple xs) y := id rfl
theorem e_eqAL {xs : List PyData} {y : PyData} : dEqA (.list xs) y = dEq (.list xs) y := id rfl
theorem e_neAL {xs : List PyData} {y : PyData} : dNeA (.list xs) y = dNe (.list xs) y := id rfl
/-! equality of data -/
theorem eqv_int {i j : Int} : PyData.eqv (.int i) (.int j) = (i == j) := by simp [PyData.eqv]
theorem eqv_tuple {xs ys : List PyData} : PyData.eqv (.tuple xs) (.tuple ys) = PyData.eqvAll xs ys := by simp [PyData.eqv]
theorem eqv_list {xs ys : List PyData} : PyData.eqv (.list xs) (.list ys) = PyData.eqvAll xs ys := by simp [PyData.eqv]
theorem eqvAll_nil : PyData.eqvAll [] [] = true := by simp [PyData.eqvAll]
theorem eqvAll_cons {x y : PyData} {xs ys : List PyData} : PyData.eqvAll (x :: xs) (y :: ys) = (PyData.eqv x y && PyData.eqvAll xs ys) := by simp [PyData.eqvAll]
mutual
/-- data that is equal to itself (all that is here) -/
theorem eqv_refl : ∀ (d : PyData), d.canLay0 = true → PyData.eqv d d = true
  | .none, _ => by simp [PyData.eqv]
  | .bool _, _ => by simp [PyData.eqv]
  | .int _, _ => by simp [PyData.eqv]
  | .str _, _ => by simp [PyData.eqv]
  | .list xs, h => by rw [eqv_list]; exact eqvAll_refl xs (by simpa [PyData.canLay0] using h)
  | .tuple xs, h => by rw [eqv_tuple]; exact eqvAll_refl xs (by simpa [PyData.canLay0] using h)
  | .dict _, h => by simp [PyData.canLay0] at h
theorem eqvAll_refl : ∀ (xs : List PyData), PyData.canLayAll0 xs = true → PyData.eqvAll xs xs = true
  | [], _ => eqvAll_nil
  | x :: r, h => by
    simp only [PyData.canLayAll0, Bool.and_eq_true] at h
    rw [eqvAll_cons, eqv_refl x h.1, eqvAll_refl r h.2]
    rfl
end
theorem Sm.shaped {k j : Nat} {d : PyData} (h : Sm k j d) (hj : j ≤ 64) : SeqAt.shaped d = true := by
  unfold SeqAt.shaped
  rw [h.c, decide_eq_true (Nat.le_trans h.p hj)]
  rfl
theorem dEq_self {d : PyData} (h : SeqAt.shaped d = true) : dEq d d = some (.bool true, false) := by
  unfold dEq
  rw [h, eqv_refl d (SeqAt.canLay_of_shaped h)]
  rfl
theorem dNe_self {d : PyData} (h : SeqAt.shaped d = true) : dNe d d = some (.bool false, false) := by
  unfold dNe
  rw [h, eqv_refl d (SeqAt.canLay_of_shaped h)]
  rfl
end DL

namespace DL
open PySem PySem.Spec
open PyProof.Rows hiding St
section
variable {js : List Nat} {ks : List Int} {c : PyData} {xs : List PyData} {i : Int} {b : Bool} {z : Str}
theorem e_isE1 : dIsiE js ks [.int i, c] = dIsi [.int i, c] := id rfl
theorem e_isE2 : dIsiE js ks [.tuple xs, c] = dIsi [.tuple xs, c] := id rfl
theorem e_isE3 : dIsiE js ks [.list xs, c] = dIsi [.list xs, c] := id rfl
theorem e_isE4 : dIsiE js ks [.bool b, c] = dIsi [.bool b, c] := id rfl
theorem e_isE5 : dIsiE js ks [.none, c] = dIsi [.none, c] := id rfl
theorem e_isE6 : dIsiE js ks [.str z, c] = dIsi [.str z, c] := id rfl
variable {io : List Nat} {m n k : Nat} {g : Sl → SV} {δ δ1 : Sl} {fl : Fl}
def kTry (io : List Nat) (m n : Nat) (js : List Nat) : SV → SV
  | .exc c xs δ1 => if c ∈ js then tryEnd io m n c xs δ1 else .stk
  | r => r
theorem e_try : sTry io m n js g δ = kTry io m n js (g δ) := by unfold sTry kTry; split <;> simp_all
theorem e_try1 : kTry io m n js (.ok fl δ) = .ok fl δ := id rfl
theorem e_try2 : kTry io m n js (.exc k xs δ1) = if k ∈ js then tryEnd io m n k xs δ1 else .stk := id rfl
end
end DL

namespace DL
open PySem PySem.Spec
open PyProof.Rows hiding St
variable {δ : Sl} {gr : Sl → R Sl (List PyData)} {gk ga : Sl → EV} {zs : List Str} {xs : List PyData} {fr : Bool} {y : PyData}
def kDix2 (zs : List Str) (xs : List PyData) (p : PyData × Bool) (δ : Sl) : EV := fin (dLook zs xs p.1) δ
def kDix1 (zs : List Str) (gk : Sl → EV) (xs : List PyData) (δ : Sl) : EV := (gk δ).bind (kDix2 zs xs)
theorem e_dix : gDictIx zs gr gk δ = (gr δ).bind (kDix1 zs gk) := id rfl
theorem e_dix1 : kDix1 zs gk xs δ = (gk δ).bind (kDix2 zs xs) := id rfl
theorem e_dix2 : kDix2 zs xs (y, fr) δ = fin (dLook zs xs y) δ := id rfl
theorem e_look {z k : Str} {x : PyData} : dLook (z :: zs) (x :: xs) (.str k) = if k = z then some (x, false) else dLook zs xs (.str k) := id rfl
def kRev (p : PyData × Bool) (δ : Sl) : EV := match p.1 with
  | .list xs => .ok (.list xs.reverse, true) δ
  | _ => .stk
theorem e_rev : gRev ga δ = (ga δ).bind kRev := id rfl
theorem e_rev1 : kRev (.list xs, fr) δ = .ok (.list xs.reverse, true) δ := id rfl
def kLr1 (p : PyData × Bool) (δ : Sl) : EV := match p.1 with
  | .int j => if rgOk 0 j then .ok (.list (rgD 0 j), true) δ else .stk
  | _ => .stk
theorem e_lr1 : gLstRg1 ga δ = (ga δ).bind kLr1 := id rfl
theorem e_lr11 {j : Int} : kLr1 (.int j, fr) δ = if rgOk 0 j then .ok (.list (rgD 0 j), true) δ else .stk := id rfl
def kExt2 (i : Nat) (y : PyData) (δ : Sl) : Option (Option (Bool × PyData)) → SV
  | some (some (true, .list ds)) => match y with
    | .list es => if ds.length + es.length ≤ LINE then .ok .nx (δ.set i (some (true, .list (ds ++ es)))) else .stk
    | _ => .stk
  | _ => .stk
def kExt1 (i : Nat) (y : PyData × Bool) (δ : Sl) : SV := kExt2 i y.1 δ δ[i]?
def kExt0 (i : Nat) (ga : Sl → EV) (δ : Sl) : Option (Option (Bool × PyData)) → SV
  | some (some (true, .list _)) => (ga δ).bind (kExt1 i)
  | _ => .stk
theorem e_ext {i : Nat} : sExtend i ga δ = kExt0 i ga δ δ[i]? := by
  unfold sExtend kExt0
  split
  · rename_i h
    rw [h]
    dsimp only
    congr 1
    funext x δ1
    unfold kExt1 kExt2
    split
    · rename_i h1 h2
      rw [h1, h2]
    · rename_i h1
      split
      · rename_i ds h2
        split
        · rename_i es h3
          exact absurd h3 (h1 ds es h2)
        · rfl
      · rfl
  · rename_i h
    split
    · rename_i ds h2
      exact absurd h2 (h ds)
    · rfl
theorem e_ext0 {i : Nat} : kExt0 i ga δ (some (some (true, .list xs))) = (ga δ).bind (kExt1 i) := id rfl
theorem e_ext1 {i : Nat} : kExt1 i (y, fr) δ = kExt2 i y δ δ[i]? := id rfl
theorem e_ext2 {i : Nat} {es : List PyData} : kExt2 i (.list es) δ (some (some (true, .list xs))) = if xs.length + es.length ≤ LINE then .ok .nx (δ.set i (some (true, .list (xs ++ es)))) else .stk := id rfl
theorem dMulI_ok {i j : Int} (k l : Nat) (hi : i.natAbs < 2 ^ k) (hj : j.natAbs < 2 ^ l) (hk : k + l ≤ 134217728) : dMulI (.int i) (.int j) = some (.int (i * j), false) := by
  have e := intBits_lt hi
  have f := intBits_lt hj
  simp only [dMulI]
  rw [if_pos (by unfold bitsOk; exact decide_eq_true (by omega))]
theorem e_tUnl {gs : List PyData → Sl → Option Sl} : gtUnl gs (.list xs) fr δ = gs xs δ := id rfl
end DL

namespace DL
open PySem PySem.Spec L2
open PyProof.Rows hiding St
section
variable {ga gb : Sl → EV} {gr : Sl → R Sl (List PyData)} {δ : Sl} {f : List PyData → R (List PyData) (PyData × Bool)} {n i j i0 i1 i2 i3 : Nat} {io : List Nat} {d : PyData} {fr : Bool} {xs outs ws : List PyData} {m p q : Int}
def kRetT (gb : Sl → EV) (x : PyData × Bool) (δ : Sl) : SV := (gb δ).bind (retT x)
theorem e_retT : sRetT ga gb δ = (ga δ).bind (kRetT gb) := id rfl
theorem e_retT1 {x : PyData × Bool} : kRetT gb x δ = (gb δ).bind (retT x) := id rfl
theorem e_retT2 : retT (.int m, fr) (.list ws, true) δ = .ok (.rt (.tuple [.int m, .list ws]) true) δ := id rfl
def kRetC2 : R (List PyData) (PyData × Bool) → Sl → SV
  | .ok p _, δ => .ok (.rt p.1 p.2) δ
  | .exc c xs _, δ => .exc c xs δ
  | .stk, _ => .stk
def kRetC1 (f : List PyData → R (List PyData) (PyData × Bool)) (n : Nat) (ds : List PyData) (δ : Sl) : SV := if ds.length = n then kRetC2 (f ds) δ else .stk
theorem e_retC : sRetC f n gr δ = (gr δ).bind (kRetC1 f n) := by
  unfold sRetC
  congr 1 <;> skip
  all_goals
    try
      funext ds δ1
      unfold kRetC1 kRetC2
      split
      · cases f ds <;> rfl
      · rfl
theorem e_retC1 : kRetC1 f n xs δ = if xs.length = n then kRetC2 (f xs) δ else .stk := id rfl
theorem e_retC2 : kRetC2 (.ok (d, fr) outs) δ = .ok (.rt d fr) δ := id rfl
def kS41 (io : List Nat) (i0 i1 i2 i3 : Nat) (gb : Sl → EV) (gr : Sl → R Sl (List PyData)) (x : PyData × Bool) (δ : Sl) : SV := (gb δ).bind fun y δ2 => (gr δ2).bind fun zs δ3 => set4 io i0 i1 i2 i3 x y zs δ3
def kS42 (io : List Nat) (i0 i1 i2 i3 : Nat) (gr : Sl → R Sl (List PyData)) (x y : PyData × Bool) (δ : Sl) : SV := (gr δ).bind (set4 io i0 i1 i2 i3 x y)
theorem e_s4 : sSet4 io i0 i1 i2 i3 ga gb gr δ = (ga δ).bind (kS41 io i0 i1 i2 i3 gb gr) := id rfl
theorem e_s41 {x : PyData × Bool} : kS41 io i0 i1 i2 i3 gb gr x δ = (gb δ).bind (kS42 io i0 i1 i2 i3 gr x) := id rfl
theorem e_s42 {x y : PyData × Bool} : kS42 io i0 i1 i2 i3 gr x y δ = (gr δ).bind (set4 io i0 i1 i2 i3 x y) := id rfl
theorem e_s43 : set4 io i0 i1 i2 i3 (.int m, fr) (.list ws, true) [.int p, .int q] δ = if io.contains i0 || io.contains i1 || io.contains i2 || io.contains i3 || decide (δ.length ≤ i0) || decide (δ.length ≤ i1) || decide (δ.length ≤ i2) || decide (δ.length ≤ i3) || decide (i1 = i2) || decide (i1 = i3) then .stk
      else .ok .nx ((((δ.set i0 (some (false, .int m))).set i1 (some (true, .list ws))).set i2 (some (false, .int p))).set i3 (some (false, .int q))) := id rfl
/-- a, b = f(..), where f answers so -/
theorem e_unp (h : f xs = .ok (.tuple [.int m, .list ws], true) outs) (hn : xs.length = n) (hr : gr δ = .ok xs δ) : sUnp io i j f n gr δ = if io.contains i || io.contains j || decide (δ.length ≤ i) || decide (δ.length ≤ j) || decide (i = j) then .stk else .ok .nx ((δ.set i (some (false, .int m))).set j (some (true, .list ws))) := by
  unfold sUnp
  rw [hr]
  show (if xs.length = n then _ else _) = _
  rw [if_pos hn, h]
end
end DL

namespace SM
open PySem PySem.Spec L2 DL
open PyProof.Rows hiding St
def z_greater : Str := ⟨#[103, 114, 101, 97, 116, 101, 114]⟩
def z_inorder : Str := ⟨#[105, 110, 111, 114, 100, 101, 114]⟩
def z_lesser : Str := ⟨#[108, 101, 115, 115, 101, 114]⟩
def z_levels : Str := ⟨#[108, 101, 118, 101, 108, 115]⟩
def z_postorder : Str := ⟨#[112, 111, 115, 116, 111, 114, 100, 101, 114]⟩
def z_powers : Str := ⟨#[112, 111, 119, 101, 114, 115]⟩
def z_preorder : Str := ⟨#[112, 114, 101, 111, 114, 100, 101, 114]⟩
def b__law_wound : Sl → SV := (sSeq (sAsg (gC (.int 0)) (gtName [] 2))
  (sSeq (sIf (gTv (gBin dLt (gVar 1) (gLenV 0))) (sAsg (gSlotBin dIx 0 (gVar 1)) (gtName [] 2)) sNext)
  (sRet (gLst (gaCons (gCall dMax2 (gaCons (gC (.int 0)) (gaCons (gBin dSub (gVar 2) (gBin dPow (gC (.int 10)) (gC (.int 18)))) gaNil))) (gaCons (gBin dAdd (gBin dAdd (gBin dMul (gBin dMod (gCall dInt (gaCons (gVar 2) gaNil)) (gBin dAdd (gBin dPow (gC (.int 10)) (gC (.int 38))) (gC (.int 133)))) (gC (.int 67))) (gBin dMul (gC (.int 141650939)) (gVar 1))) (gC (.int 23))) (gaCons (gC (.int 0)) gaNil)))))))
def m__law_wound : List D → R (List D) (D × Bool) := bodyF [] 3 b__law_wound
def b_require_kind : Sl → SV := (sIf (gOrT (gNotT (gTv (gCall dIsi (gaCons (gVar 0) (gaCons (gC (.dict [(.bool false, .int (-3))])) gaNil))))) (gTv (gBin dNotIn (gVar 0) (gC (.tuple (List.map PyData.str [z_levels, z_inorder, z_preorder, z_postorder, z_lesser, z_greater, z_powers])))))) (sRaise 4) sNext)
def m_require_kind : List D → R (List D) (D × Bool) := bodyF [] 1 b_require_kind
def b_is_int : Sl → SV := (sRet (gAndV (gCall dIsi (gaCons (gVar 0) (gaCons (gC (.dict [(.bool false, .int (-1))])) gaNil))) (gNotV (gCall dIsi (gaCons (gVar 0) (gaCons (gC (.dict [(.bool false, .int (-2))])) gaNil))))))
def m_is_int : List D → R (List D) (D × Bool) := bodyF [] 1 b_is_int
def b_is_whole : Sl → SV := (sRet (gAndV (gDef m_is_int [] (gjVal (gVar 0) gjNil)) (gChain dLe dLe (gVar 1) (gVar 0) (gVar 2))))
def m_is_whole : List D → R (List D) (D × Bool) := bodyF [] 3 b_is_whole
def b_require_height : Sl → SV := (sIf (gNotT (gTv (gDef m_is_whole [] (gjVal (gVar 0) (gjVal (gC (.int 1)) (gjVal (gC (.int 100)) gjNil)))))) (sRaise 5) sNext)
def m_require_height : List D → R (List D) (D × Bool) := bodyF [] 1 b_require_height
def b_require_tree : Sl → SV := (sSeq (sExpr (gDef m_require_kind [] (gjVal (gVar 0) gjNil)))
  (sExpr (gDef m_require_height [] (gjVal (gVar 1) gjNil))))
def m_require_tree : List D → R (List D) (D × Bool) := bodyF [] 2 b_require_tree
def b_require_depth : Sl → SV := (sIf (gNotT (gTv (gDef m_is_whole [] (gjVal (gVar 1) (gjVal (gC (.int 0)) (gjVal (gBin dSub (gVar 0) (gC (.int 1))) gjNil)))))) (sRaise 7) sNext)
def m_require_depth : List D → R (List D) (D × Bool) := bodyF [] 2 b_require_depth
def ce_plain_sums_1 : Sl → EV := (gBin dSub (gBin dShl (gC (.int 1)) (gBin dSub (gVar 1) (gVar 4))) (gC (.int 1)))
def ce_plain_sums_2 : Sl → EV := (gBin dSub (gBin dShl (gC (.int 1)) (gBin dSub (gVar 1) (gVar 4))) (gC (.int 1)))
def ce_plain_sums_3 : Sl → EV := (gBin dShl (gC (.int 1)) (gBin dSub (gVar 1) (gVar 4)))
def ce_plain_sums_4 : Sl → EV := (gBin dShl (gC (.int 1)) (gBin dSub (gVar 2) (gVar 4)))
def b_plain_sums : Sl → SV := (sSeq (sAsg (gLstRg (gC (.int 1)) (gBin dAdd (gVar 2) (gC (.int 1)))) (gtName [] 3))
  (sMatch (gVar 0) (mCase z_levels (sRetT (gBin dSub (gBin dShl (gC (.int 1)) (gVar 2)) (gC (.int 1))) (gLc [4] (giSeq (gVar 3)) (gtName [] 4) gYes ce_plain_sums_4))
  (mCase z_inorder (sRetT (gBin dSub (gBin dShl (gC (.int 1)) (gBin dSub (gBin dSub (gVar 1) (gC (.int 1))) (gVar 2))) (gC (.int 1))) (gLc [4] (giSeq (gVar 3)) (gtName [] 4) gYes ce_plain_sums_3))
  (mCase z_preorder (sRetT (gVar 2) (gLc [4] (giSeq (gVar 3)) (gtName [] 4) gYes ce_plain_sums_2))
  (mAny (sRetT (gBin dSub (gBin dShl (gC (.int 1)) (gBin dSub (gVar 1) (gVar 2))) (gC (.int 2))) (gLc [4] (giSeq (gVar 3)) (gtName [] 4) gYes ce_plain_sums_1))))))))
def m_plain_sums : List D → R (List D) (D × Bool) := bodyF [] 5 b_plain_sums
def b_cut_levels : Sl → SV := (sSeq (sIf (gOrT (gTv (gBin dNotIn (gVar 0) (gC (.tuple (List.map PyData.str [z_lesser, z_greater, z_powers]))))) (gTv (gBin dEqA (gVar 1) (gC (.int 1))))) (sRet (gC .none)) sNext)
  (sSeq (sIf (gTv (gBin dEqA (gVar 0) (gC (.str z_lesser)))) (sRet (gBin dDiv (gVar 1) (gC (.int 2)))) sNext)
  (sSeq (sIf (gTv (gBin dEqA (gVar 0) (gC (.str z_greater)))) (sRet (gBin dDiv (gBin dAdd (gVar 1) (gC (.int 1))) (gC (.int 2)))) sNext)
  (sRet (gBin dSub (gVar 1) (gBin dShl (gC (.int 1)) (gBin dSub (gUn dBits (gBin dSub (gVar 1) (gC (.int 1)))) (gC (.int 1)))))))))
def m_cut_levels : List D → R (List D) (D × Bool) := bodyF [] 2 b_cut_levels
def ce_sums_of_1 : Sl → EV := (gBin dShl (gVar 8) (gBin dSub (gVar 7) (gVar 9)))
def wt_sums_of_1 : Sl → R Sl Bool := (gTv (gBin dGt (gVar 5) (gC (.int 1))))
def wb_sums_of_1 : Sl → SV := (sSeq (sAsg (gDef m_cut_levels [] (gjVal (gVar 0) (gjVal (gVar 5) gjNil))) (gtName [] 7))
  (sIf (gTv (gBin dLt (gVar 6) (gVar 7))) (sAsg (gVar 7) (gtName [] 5)) (sSeq (sAsg (gBin dSub (gBin dShl (gC (.int 1)) (gBin dSub (gVar 5) (gVar 7))) (gC (.int 1))) (gtName [] 8))
  (sSeq (sAug [] 3 dAddI (gBin dSub (gBin dShl (gC (.int 1)) (gVar 7)) (gC (.int 1))))
  (sSeq (sAsg (gLst (gaStar (gVar 4) (gaStar (gLc [9] (giRg2 (gaCons (gC (.int 1)) (gaCons (gBin dAdd (gVar 7) (gC (.int 1))) gaNil))) (gtName [] 9) gYes ce_sums_of_1) gaNil))) (gtName [] 4))
  (sPar [] 5 6 (gBin dSub (gVar 5) (gVar 7)) (gBin dSub (gVar 6) (gVar 7))))))))
def b_sums_of : Sl → SV := (sSeq (sIf (gTv (gBin dNotIn (gVar 0) (gC (.tuple (List.map PyData.str [z_lesser, z_greater, z_powers]))))) (sRetC m_plain_sums 3 (gaCons (gVar 0) (gaCons (gVar 1) (gaCons (gVar 2) gaNil)))) sNext)
  (sSeq (sSet4 [] 3 4 5 6 (gC (.int 0)) (gLst gaNil) (gaCons (gVar 1) (gaCons (gVar 2) gaNil)))
  (sSeq (sWhile 200 wt_sums_of_1 wb_sums_of_1)
  (sRetT (gVar 3) (gMove [] 4)))))
def m_sums_of : List D → R (List D) (D × Bool) := bodyF [] 10 b_sums_of
def b_weights : Sl → SV := (sSeq (sExpr (gDef m_require_tree [] (gjVal (gVar 0) (gjVal (gVar 1) gjNil))))
  (sSeq (sExpr (gDef m_require_depth [] (gjVal (gVar 1) (gjVal (gVar 2) gjNil))))
  (sRetC m_sums_of 3 (gaCons (gVar 0) (gaCons (gVar 1) (gaCons (gVar 2) gaNil))))))
def m_weights : List D → R (List D) (D × Bool) := bodyF [] 3 b_weights
def b__law_spin : Sl → SV := (sSeq (sIf (gTv (gBin dGt (gSlotBin dIx 0 (gC (.int 0))) (gC (.int 0)))) (sSeq (sAsg (gBin dMod (gCall dInt (gaCons (gSlotBin dIx 0 (gC (.int 0))) gaNil)) (gVar 1)) (gtName [0] 2))
  (sSeq (sSetIx 0 (gBin dDiv (gSlotBin dIx 0 (gC (.int 0))) (gVar 1)) (gC (.int 0)))
  (sRet (gMove [0] 2)))) sNext)
  (sSeq (sSetIx 0 (gBin dAdd (gSlotBin dIx 0 (gC (.int 2))) (gC (.int 1))) (gC (.int 2)))
  (sSeq (sAsg (gBin dMod (gCall dInt (gaCons (gBin dPow (gBin dAdd (gSlotBin dIx 0 (gC (.int 1))) (gBin dMul (gC (.int 86028121)) (gSlotBin dIx 0 (gC (.int 2))))) (gC (.int 3))) gaNil)) (gBin dAdd (gBin dPow (gC (.int 10)) (gC (.int 42))) (gC (.int 63)))) (gtName [0] 3))
  (sSeq (sAsg (gBin dMod (gCall dInt (gaCons (gBin dPow (gBin dAdd (gVar 3) (gBin dMul (gC (.int 67867967)) (gSlotBin dIx 0 (gC (.int 2))))) (gC (.int 3))) gaNil)) (gBin dAdd (gBin dPow (gC (.int 10)) (gC (.int 44))) (gC (.int 57)))) (gtName [0] 3))
  (sRet (gBin dMod (gCall dInt (gaCons (gBin dDiv (gVar 3) (gC (.int 655331))) gaNil)) (gVar 1)))))))
def m__law_spin : List D → R (List D) (D × Bool) := bodyF [0] 4 b__law_spin
def b__law_kinds : Sl → SV := (sRet (gLst (gaCons (gC (.str z_levels)) (gaCons (gC (.str z_inorder)) (gaCons (gC (.str z_preorder)) (gaCons (gC (.str z_postorder)) (gaCons (gC (.str z_lesser)) (gaCons (gC (.str z_greater)) (gaCons (gC (.str z_powers)) gaNil)))))))))
def m__law_kinds : List D → R (List D) (D × Bool) := bodyF [] 0 b__law_kinds
def b_is_node : Sl → SV := (sSeq (sIf (gOrT (gNotT (gTv (gCall dIsi (gaCons (gVar 1) (gaCons (gC (.dict [(.bool false, .int (-4))])) gaNil))))) (gOrT (gTv (gBin dNeA (gLenV 1) (gC (.int 2)))) (gNotT (gTv (gDef m_is_whole [] (gjVal (gSlotBin dIx 1 (gC (.int 0))) (gjVal (gC (.int 0)) (gjVal (gBin dSub (gVar 0) (gC (.int 1))) gjNil)))))))) (sRet (gC (.bool false))) sNext)
  (sRet (gDef m_is_whole [] (gjVal (gSlotBin dIx 1 (gC (.int 1))) (gjVal (gC (.int 0)) (gjVal (gBin dSub (gBin dShl (gC (.int 1)) (gSlotBin dIx 1 (gC (.int 0)))) (gC (.int 1))) gjNil))))))
def m_is_node : List D → R (List D) (D × Bool) := bodyF [] 2 b_is_node
def b_require_node : Sl → SV := (sIf (gNotT (gTv (gDef m_is_node [] (gjVal (gVar 0) (gjVal (gVar 1) gjNil))))) (sRaise 6) sNext)
def m_require_node : List D → R (List D) (D × Bool) := bodyF [] 2 b_require_node
def lb_spot_of_1 : Sl → SV := (sIf (gTv (gBin dEqA (gBin dAnd (gBin dShr (gVar 4) (gBin dSub (gBin dSub (gVar 3) (gC (.int 1))) (gVar 7))) (gC (.int 1))) (gC (.int 1)))) (sAug [] 5 dAddI (gVar 8)) sNext)
def b_spot_of : Sl → SV := (sSeq (sAsg (gVar 2) (gtTup (gtCons (gtName [] 3) (gtCons (gtName [] 4) gtNil))))
  (sSeq (sAsg (gDef m_sums_of [] (gjVal (gVar 0) (gjVal (gVar 1) (gjVal (gVar 3) gjNil)))) (gtTup (gtCons (gtName [] 5) (gtCons (gtName [] 6) gtNil))))
  (sSeq (sFor (giEnum (gVar 6)) (gtTup (gtCons (gtName [] 7) (gtCons (gtName [] 8) gtNil))) lb_spot_of_1)
  (sRet (gMove [] 5)))))
def m_spot_of : List D → R (List D) (D × Bool) := bodyF [] 9 b_spot_of
def b_place_of : Sl → SV := (sSeq (sExpr (gDef m_require_tree [] (gjVal (gVar 0) (gjVal (gVar 1) gjNil))))
  (sSeq (sExpr (gDef m_require_node [] (gjVal (gVar 1) (gjVal (gVar 2) gjNil))))
  (sRet (gDef m_spot_of [] (gjVal (gVar 0) (gjVal (gVar 1) (gjVal (gVar 2) gjNil)))))))
def m_place_of : List D → R (List D) (D × Bool) := bodyF [] 3 b_place_of
def lb_right_1 : Sl → SV := (sAppend 6 (gBin dSub (gDef m_place_of [] (gjVal (gVar 1) (gjVal (gVar 2) (gjVal (gTup (gaCons (gVar 3) (gaCons (gBin dShl (gC (.int 1)) (gBin dSub (gBin dSub (gVar 3) (gC (.int 1))) (gVar 7))) gaNil))) gjNil)))) (gDef m_place_of [] (gjVal (gVar 1) (gjVal (gVar 2) (gjVal (gTup (gaCons (gVar 3) (gaCons (gC (.int 0)) gaNil))) gjNil))))))
def th_right_1 : Sl → SV := (sIf (gTv (gBin dNeA (gCall dRepr (gaCons (gTup (gaCons (gVar 4) (gaCons (gVar 5) gaNil))) gaNil)) (gCall dRepr (gaCons (gTup (gaCons (gDef m_place_of [] (gjVal (gVar 1) (gjVal (gVar 2) (gjVal (gTup (gaCons (gVar 3) (gaCons (gC (.int 0)) gaNil))) gjNil)))) (gaCons (gVar 6) gaNil))) gaNil)))) (sRet (gC (.bool false))) sNext)
def lb_right_2 : Sl → SV := (sSeq (sIf (gTv (gBin dLe (gVar 9) (gVar 8))) (sRet (gC (.bool false))) sNext)
  (sAsg (gBin dAdd (gVar 8) (gVar 9)) (gtName [6, 0] 8)))
def th_right_2 : Sl → SV := (sFor (giSeq (gRev (gVar 6))) (gtName [6, 0] 9) lb_right_2)
def ce_right_1 : Sl → EV := (gBin dMul (gVar 9) (gBin dAnd (gBin dShr (gVar 11) (gBin dSub (gBin dSub (gVar 3) (gC (.int 1))) (gVar 7))) (gC (.int 1))))
def lb_right_3 : Sl → SV := (sSeq (sAsg (gDef m__law_spin [0] (gjIo 0 (gjVal (gBin dShl (gC (.int 1)) (gVar 3)) gjNil))) (gtName [5, 0] 11))
  (sSeq (sAsg (gBin dAdd (gVar 4) (gCall dSum (gaCons (gLc [7, 9] (giEnum (gVar 5)) (gtTup (gtCons (gtName [5, 0] 7) (gtCons (gtName [5, 0] 9) gtNil))) gYes ce_right_1) gaNil))) (gtName [5, 0] 12))
  (sIf (gTv (gBin dNeA (gDef m_place_of [] (gjVal (gVar 1) (gjVal (gVar 2) (gjVal (gTup (gaCons (gVar 3) (gaCons (gVar 11) gaNil))) gjNil)))) (gVar 12))) (sRet (gC (.bool false))) sNext)))
def th_right_3 : Sl → SV := (sFor (giRg1 (gaCons (gC (.int 3)) gaNil)) (gtName [5, 0] 10) lb_right_3)
def b__law_right : Sl → SV := (sSeq (sAsg (gBin dIx (gLst (gaCons (gDef m__law_spin [0] (gjIo 0 (gjVal (gVar 2) gjNil))) (gaCons (gBin dSub (gVar 2) (gC (.int 1))) gaNil))) (gDef m__law_spin [0] (gjIo 0 (gjVal (gC (.int 2)) gjNil)))) (gtName [0] 3))
  (sSeq (sUnp [0] 4 5 m_weights 3 (gaCons (gVar 1) (gaCons (gVar 2) (gaCons (gVar 3) gaNil))))
  (sSeq (sAsg (gLst gaNil) (gtName [0] 6))
  (sSeq (sFor (giRg1 (gaCons (gVar 3) gaNil)) (gtName [0] 7) lb_right_1)
  (sSeq (sThaw [5, 6] th_right_1)
  (sSeq (sAsg (gC (.int 0)) (gtName [0] 8))
  (sSeq (sThaw [6] th_right_2)
  (sSeq (sThaw [5] th_right_3)
  (sSeq (sAppend 5 (gC .none))
  (sRet (gBin dEqA (gDef m_weights [] (gjVal (gVar 1) (gjVal (gVar 2) (gjVal (gVar 3) gjNil)))) (gTup (gaCons (gVar 4) (gaCons (gVar 6) gaNil))))))))))))))
def m__law_right : List D → R (List D) (D × Bool) := bodyF [0] 13 b__law_right
def ct_law_1 : Sl → R Sl Bool := (gNotT (gTv (gDef m__law_right [0] (gjIo 2 (gjVal (gVar 5) (gjVal (gVar 3) gjNil))))))
def ce_law_1 : Sl → EV := (gVar 5)
def lb_law_1 : Sl → SV := (sSeq (sAsg (gDef m__law_wound [] (gjVal (gVar 0) (gjVal (gVar 1) gjNil))) (gtName [] 2))
  (sSeq (sAsg (gBin dAdd (gC (.int 1)) (gDef m__law_spin [0] (gjIo 2 (gjVal (gBin dIx (gLst (gaCons (gC (.int 9)) (gaCons (gC (.int 100)) gaNil))) (gDef m__law_spin [0] (gjIo 2 (gjVal (gC (.int 2)) gjNil)))) gjNil)))) (gtName [] 3))
  (sIf (gTv (gBin dNeA (gLc [5] (giSeq (gDef0 m__law_kinds)) (gtName [] 5) ct_law_1 ce_law_1) (gLst gaNil))) (sRet (gC (.bool false))) sNext)))
def b_law : Sl → SV := (sSeq (sFor (giRg1 (gaCons (gCall dMax2 (gaCons (gC (.int 1)) (gaCons (gCall dMin2 (gaCons (gC (.int 4)) (gaCons (gLenV 0) gaNil))) gaNil))) gaNil)) (gtName [] 1) lb_law_1)
  (sSeq (sAsg (gLst (gaCons (gDef m_weights [] (gjVal (gC (.str z_lesser)) (gjVal (gC (.int 4)) (gjVal (gC (.int 3)) gjNil)))) (gaCons (gDef m_weights [] (gjVal (gC (.str z_preorder)) (gjVal (gC (.int 4)) (gjVal (gC (.int 2)) gjNil)))) (gaCons (gDef m_weights [] (gjVal (gC (.str z_postorder)) (gjVal (gC (.int 4)) (gjVal (gC (.int 0)) gjNil)))) (gaCons (gDef m_weights [] (gjVal (gC (.str z_inorder)) (gjVal (gC (.int 4)) (gjVal (gC (.int 3)) gjNil)))) gaNil))))) (gtName [] 4))
  (sRet (gBin dEqA (gVar 4) (gLst (gaCons (gTup (gaCons (gC (.int 4)) (gaCons (gLst (gaCons (gC (.int 6)) (gaCons (gC (.int 3)) (gaCons (gC (.int 1)) gaNil)))) gaNil))) (gaCons (gTup (gaCons (gC (.int 2)) (gaCons (gLst (gaCons (gC (.int 7)) (gaCons (gC (.int 3)) gaNil))) gaNil))) (gaCons (gTup (gaCons (gC (.int 14)) (gaCons (gLst gaNil) gaNil))) (gaCons (gTup (gaCons (gC (.int 0)) (gaCons (gLst (gaCons (gC (.int 8)) (gaCons (gC (.int 4)) (gaCons (gC (.int 2)) gaNil)))) gaNil))) gaNil)))))))))
def m_law : List D → R (List D) (D × Bool) := bodyF [] 6 b_law
end SM

namespace SM
open PySem PySem.Spec DL
open PyProof.Rows hiding St
def nd (d n : Nat) : D := .tuple [.int d, .int n]
theorem pw (d : Nat) : ((2 ^ d : Nat) : Int) = 2 ^ d := by simp
theorem is_int_int (i : Int) : m_is_int [.int i] = .ok (.bool true, false) [] := rfl
theorem is_whole_int (i a b : Int) : m_is_whole [.int i, .int a, .int b] = .ok (.bool (decide (a ≤ i) && decide (i ≤ b)), false) [] := by
  by_cases h1 : a ≤ i <;> simp [m_is_whole, b_is_whole, is_int_int, e_tUnl, e_ext, e_ext0, e_ext1, e_ext2, e_dix, e_dix1, e_dix2, e_look, e_rev, e_rev1, e_lr1, e_lr11, e_isE1, e_isE2, e_isE3, e_isE4, e_isE5, e_isE6, e_try, e_try1, e_try2, e_eqAS, e_neAS, e_eqAI, e_neAI, e_bind_ok, e_bind_exc, e_bind_stk, e_var, e_var1, e_var2, e_move, e_move1, e_move2, e_C, e_fin1, e_bin, e_bin1, e_bin2, e_chain, e_chain1, e_chain2, e_chain3, e_chain4, e_chain5, e_if, e_if1, e_if2, e_tv, e_tv1, e_notT, e_notT1, e_andT, e_andT1, e_andT2, e_orT, e_orT1, e_orT2, e_andV, e_andV1, e_andV2, e_orV, e_orV1, e_orV2, e_notV, e_notV1, e_aNil, e_aCons, e_aCons1, e_aCons2, e_star, e_star1, e_star2, e_star3, e_lst, e_lst1, e_tup, e_tup1, e_call, e_call1, e_slot, e_slot1, e_sb, e_sb0, e_sb1, e_sb2, e_sb3, e_bs, e_bs1, e_bs2, e_lenV, e_lenV1, e_un, e_un1, e_def, e_def1, e_def2, e_def3, e_fix0, e_fix1, e_fix2, e_def4, e_def0, e_def01, e_jNil, e_jVal, e_jVal1, e_j2, e_jIo, e_jIo1, e_itD0, e_itD1, e_itD2, e_itD3, e_itJ0, e_itJ1, e_itJ2, e_itP0, e_itP1, e_itP2, e_setMany0, e_setMany1, e_nodup0, e_nodup1, e_noPart, e_part, e_part1, e_slice, e_slice1, e_slice2, e_slice3, e_lstRg, e_lstRg1, e_lstRg2, e_iSeq, e_iSeq1, e_iSeq2, e_iEn, e_iEn1, e_iEn2, e_iR1, e_iR11, e_iR2, e_iR21, e_yes, e_lc, e_lc1, e_lc2, e_wipe0, e_wipe1, e_back0, e_back1, e_back2, e_noneOwn0, e_noneOwn1, e_noneOwn2, e_noneOwn3, e_noneOwn4, e_name, e_set, e_tNil, e_tCons, e_tCons1, e_tTup, e_seq, e_seq1, e_seq2, e_seq3, e_seq4, e_seq5, e_next, e_break, e_cont, e_expr, e_expr1, e_ret, e_ret1, e_sIf, e_sIf1, e_sIf2, e_asg, e_asg1, e_asg2, e_aug, e_aug0, e_aug1, e_aug2, e_aug3, e_par, e_par1, e_par2, e_app, e_app0, e_app1, e_app2, e_setIx, e_setIx0, e_setIx1, e_setIx2, e_setIx3, e_setIx4, e_match, e_match1, e_mCase, e_mAny, e_raise, e_for, e_body, e_body1, e_body2, e_body3, e_body4, e_body5, e_outs0, e_outs1, e_outs2, e_start0, e_start1, e_addI, e_addL, e_addI2, e_sub, e_cmp, e_eqI, e_neI, e_eqB, e_isN0, e_isN1, e_isN2, e_isN3, e_notN0, e_notN1, e_notN2, e_notN3, e_int, e_intB, e_max, e_min, e_neg, e_bits, e_lenL, e_lenT, e_lenS, e_ixL, e_ixT, e_ixS, e_at0, e_at1, e_at2, e_map, e_lstOf, e_lstOfS, e_seqOf, e_seqOfT, e_seqOfS, e_isiIB, e_isiII, e_isiTT, e_isiLL, h1]
theorem shl1 (d : Nat) (h : d ≤ 1000) : dShl (.int 1) (.int (d : Int)) = some (.int (2 ^ d), false) := by
  have := dShl_one (j := (d : Int)) (by omega) (by omega)
  simpa using this
theorem rg_ok (a b : Int) (h1 : -1000 ≤ a) (h2 : a ≤ 1000000) (h3 : -1000 ≤ b) (h4 : b ≤ 1000000) : rgOk a b = true := by
  unfold rgOk
  simp only [Bool.and_eq_true, decide_eq_true_eq]
  omega
def wsD (d : Nat) (ws : Nat → Int) : List D := (List.range d).map fun i => .int (ws i)
end SM

namespace SM
open PySem PySem.Spec DL
open PyProof.Rows hiding St
def bt (n k : Nat) : Nat := n / 2 ^ k % 2
def psum (d n : Nat) (ws : Nat → Int) : Nat → Int
  | 0 => 0
  | i + 1 => psum d n ws i + (bt n (d - 1 - i) : Int) * ws i
theorem wsD_len (d : Nat) (ws : Nat → Int) : (wsD d ws).length = d := by simp [wsD]
theorem wsD_get {d : Nat} {ws : Nat → Int} {i : Nat} {x : D} (h : (wsD d ws)[i]? = some x) : i < d ∧ x = .int (ws i) := by
  unfold wsD at h
  rw [List.getElem?_map] at h
  obtain ⟨j, h1, h2⟩ := Option.map_eq_some_iff.mp h
  obtain ⟨h3, h4⟩ := List.getElem?_eq_some_iff.mp h1
  simp only [List.getElem_range] at h4
  subst h4
  simp only [List.length_range] at h3
  exact ⟨h3, h2.symm⟩
def grd (ws : Nat → Int) (L : Int) : Nat → Int × Int
  | 0 => (L, 0)
  | j + 1 => if ws j ≤ (grd ws L j).1 then ((grd ws L j).1 - ws j, 2 * (grd ws L j).2 + 1) else ((grd ws L j).1, 2 * (grd ws L j).2)
theorem grd_b (ws : Nat → Int) (L : Int) : ∀ j, 0 ≤ (grd ws L j).2 ∧ (grd ws L j).2 < 2 ^ j
  | 0 => by simp [grd]
  | j + 1 => by
    have := grd_b ws L j
    have e : (2 : Int) ^ (j + 1) = 2 ^ j * 2 := Int.pow_succ ..
    unfold grd
    split <;> (dsimp only; omega)
theorem grd_nat (ws : Nat → Int) (L : Int) (j : Nat) : (grd ws L j).2.natAbs < 2 ^ j := by
  have := grd_b ws L j
  have e := pw j
  omega
end SM

namespace SM
open PySem PySem.Spec DL
open PyProof.Rows hiding St
theorem spot_gen (k : Str) (h d n : Nat) (num : Int) (ws : Nat → Int) (hs : m_sums_of [.str k, .int h, .int d] = .ok (.tuple [.int num, .list (wsD d ws)], true) []) :
    m_spot_of [.str k, .int h, nd d n] = .ok (.int (num + psum d n ws d), false) [] := by
  have key := forD_inv (tgt := gtTup (gtCons (gtName [] 7) (gtCons (gtName [] 8) gtNil))) (body := lb_spot_of_1)
    (ds := enumD 0 (wsD d ws)) (δ := [some (false, .str k), some (false, .int h), some (false, .tuple [.int d, .int n]), some (false, .int d), some (false, .int n), some (false, .int num), some (false, .list (wsD d ws)), none, none])
    (fun i δ => ∃ x7 x8, δ = [some (false, .str k), some (false, .int h), some (false, .tuple [.int d, .int n]), some (false, .int d), some (false, .int n), some (false, .int (num + psum d n ws i)), some (false, .list (wsD d ws)), x7, x8])
    ⟨none, none, by simp [psum]⟩ ?_
  · obtain ⟨δ', h1, x7, x8, h2⟩ := key
    rw [enumD_len, wsD_len] at h2
    simp [m_spot_of, b_spot_of, nd, e_tUnl, e_ext, e_ext0, e_ext1, e_ext2, e_dix, e_dix1, e_dix2, e_look, e_rev, e_rev1, e_lr1, e_lr11, e_isE1, e_isE2, e_isE3, e_isE4, e_isE5, e_isE6, e_try, e_try1, e_try2, e_eqAS, e_neAS, e_eqAI, e_neAI, e_bind_ok, e_bind_exc, e_bind_stk, e_var, e_var1, e_var2, e_move, e_move1, e_move2, e_C, e_fin1, e_bin, e_bin1, e_bin2, e_chain, e_chain1, e_chain2, e_chain3, e_chain4, e_chain5, e_if, e_if1, e_if2, e_tv, e_tv1, e_notT, e_notT1, e_andT, e_andT1, e_andT2, e_orT, e_orT1, e_orT2, e_andV, e_andV1, e_andV2, e_orV, e_orV1, e_orV2, e_notV, e_notV1, e_aNil, e_aCons, e_aCons1, e_aCons2, e_star, e_star1, e_star2, e_star3, e_lst, e_lst1, e_tup, e_tup1, e_call, e_call1, e_slot, e_slot1, e_sb, e_sb0, e_sb1, e_sb2, e_sb3, e_bs, e_bs1, e_bs2, e_lenV, e_lenV1, e_un, e_un1, e_def, e_def1, e_def2, e_def3, e_fix0, e_fix1, e_fix2, e_def4, e_def0, e_def01, e_jNil, e_jVal, e_jVal1, e_j2, e_jIo, e_jIo1, e_itD0, e_itD1, e_itD2, e_itD3, e_itJ0, e_itJ1, e_itJ2, e_itP0, e_itP1, e_itP2, e_setMany0, e_setMany1, e_nodup0, e_nodup1, e_noPart, e_part, e_part1, e_slice, e_slice1, e_slice2, e_slice3, e_lstRg, e_lstRg1, e_lstRg2, e_iSeq, e_iSeq1, e_iSeq2, e_iEn, e_iEn1, e_iEn2, e_iR1, e_iR11, e_iR2, e_iR21, e_yes, e_lc, e_lc1, e_lc2, e_wipe0, e_wipe1, e_back0, e_back1, e_back2, e_noneOwn0, e_noneOwn1, e_noneOwn2, e_noneOwn3, e_noneOwn4, e_name, e_set, e_tNil, e_tCons, e_tCons1, e_tTup, e_seq, e_seq1, e_seq2, e_seq3, e_seq4, e_seq5, e_next, e_break, e_cont, e_expr, e_expr1, e_ret, e_ret1, e_sIf, e_sIf1, e_sIf2, e_asg, e_asg1, e_asg2, e_aug, e_aug0, e_aug1, e_aug2, e_aug3, e_par, e_par1, e_par2, e_app, e_app0, e_app1, e_app2, e_setIx, e_setIx0, e_setIx1, e_setIx2, e_setIx3, e_setIx4, e_match, e_match1, e_mCase, e_mAny, e_raise, e_for, e_body, e_body1, e_body2, e_body3, e_body4, e_body5, e_outs0, e_outs1, e_outs2, e_start0, e_start1, e_addI, e_addL, e_addI2, e_sub, e_cmp, e_eqI, e_neI, e_eqB, e_isN0, e_isN1, e_isN2, e_isN3, e_notN0, e_notN1, e_notN2, e_notN3, e_int, e_intB, e_max, e_min, e_neg, e_bits, e_lenL, e_lenT, e_lenS, e_ixL, e_ixT, e_ixS, e_at0, e_at1, e_at2, e_map, e_lstOf, e_lstOfS, e_seqOf, e_seqOfT, e_seqOfS, e_isiIB, e_isiII, e_isiTT, e_isiLL, hs, h1, h2]
  · rintro i x δ hx ⟨x7, x8, rfl⟩
    rw [enumD_get] at hx
    obtain ⟨y, hy, rfl⟩ := Option.map_eq_some_iff.mp hx
    obtain ⟨hi, rfl⟩ := wsD_get hy
    have e1 : dShr (.int n) (.int ((d : Int) - 1 - (i : Int))) = some (.int ((n : Int) / 2 ^ (d - 1 - i)), false) := by
      rw [dShr_ok (by omega), show ((d : Int) - 1 - (i : Int)).toNat = d - 1 - i by omega]
    have e2 : dAnd (.int ((n : Int) / 2 ^ (d - 1 - i))) (.int 1) = some (.int ((bt n (d - 1 - i) : Nat) : Int), false) := by
      have z : (n : Int) / 2 ^ (d - 1 - i) = ((n / 2 ^ (d - 1 - i) : Nat) : Int) := by simp
      have := Bits.bitAnd_mask 1 (x := ((n / 2 ^ (d - 1 - i) : Nat) : Int)) (Int.natCast_nonneg _)
      show some (PyData.int (Builtin.bitAnd _ 1), false) = _
      rw [z, show (1 : Int) = 2 ^ 1 - 1 by rfl, this]
      unfold bt
      simp
    have b01 : bt n (d - 1 - i) = 0 ∨ bt n (d - 1 - i) = 1 := by unfold bt; omega
    rcases b01 with b | b
    · rw [b] at e2
      simp only [Int.natCast_zero, Int.natCast_one] at e2
      refine ⟨_, by simp [e_tUnl, e_ext, e_ext0, e_ext1, e_ext2, e_dix, e_dix1, e_dix2, e_look, e_rev, e_rev1, e_lr1, e_lr11, e_isE1, e_isE2, e_isE3, e_isE4, e_isE5, e_isE6, e_try, e_try1, e_try2, e_eqAS, e_neAS, e_eqAI, e_neAI, e_bind_ok, e_bind_exc, e_bind_stk, e_var, e_var1, e_var2, e_move, e_move1, e_move2, e_C, e_fin1, e_bin, e_bin1, e_bin2, e_chain, e_chain1, e_chain2, e_chain3, e_chain4, e_chain5, e_if, e_if1, e_if2, e_tv, e_tv1, e_notT, e_notT1, e_andT, e_andT1, e_andT2, e_orT, e_orT1, e_orT2, e_andV, e_andV1, e_andV2, e_orV, e_orV1, e_orV2, e_notV, e_notV1, e_aNil, e_aCons, e_aCons1, e_aCons2, e_star, e_star1, e_star2, e_star3, e_lst, e_lst1, e_tup, e_tup1, e_call, e_call1, e_slot, e_slot1, e_sb, e_sb0, e_sb1, e_sb2, e_sb3, e_bs, e_bs1, e_bs2, e_lenV, e_lenV1, e_un, e_un1, e_def, e_def1, e_def2, e_def3, e_fix0, e_fix1, e_fix2, e_def4, e_def0, e_def01, e_jNil, e_jVal, e_jVal1, e_j2, e_jIo, e_jIo1, e_itD0, e_itD1, e_itD2, e_itD3, e_itJ0, e_itJ1, e_itJ2, e_itP0, e_itP1, e_itP2, e_setMany0, e_setMany1, e_nodup0, e_nodup1, e_noPart, e_part, e_part1, e_slice, e_slice1, e_slice2, e_slice3, e_lstRg, e_lstRg1, e_lstRg2, e_iSeq, e_iSeq1, e_iSeq2, e_iEn, e_iEn1, e_iEn2, e_iR1, e_iR11, e_iR2, e_iR21, e_yes, e_lc, e_lc1, e_lc2, e_wipe0, e_wipe1, e_back0, e_back1, e_back2, e_noneOwn0, e_noneOwn1, e_noneOwn2, e_noneOwn3, e_noneOwn4, e_name, e_set, e_tNil, e_tCons, e_tCons1, e_tTup, e_seq, e_seq1, e_seq2, e_seq3, e_seq4, e_seq5, e_next, e_break, e_cont, e_expr, e_expr1, e_ret, e_ret1, e_sIf, e_sIf1, e_sIf2, e_asg, e_asg1, e_asg2, e_aug, e_aug0, e_aug1, e_aug2, e_aug3, e_par, e_par1, e_par2, e_app, e_app0, e_app1, e_app2, e_setIx, e_setIx0, e_setIx1, e_setIx2, e_setIx3, e_setIx4, e_match, e_match1, e_mCase, e_mAny, e_raise, e_for, e_body, e_body1, e_body2, e_body3, e_body4, e_body5, e_outs0, e_outs1, e_outs2, e_start0, e_start1, e_addI, e_addL, e_addI2, e_sub, e_cmp, e_eqI, e_neI, e_eqB, e_isN0, e_isN1, e_isN2, e_isN3, e_notN0, e_notN1, e_notN2, e_notN3, e_int, e_intB, e_max, e_min, e_neg, e_bits, e_lenL, e_lenT, e_lenS, e_ixL, e_ixT, e_ixS, e_at0, e_at1, e_at2, e_map, e_lstOf, e_lstOfS, e_seqOf, e_seqOfT, e_seqOfS, e_isiIB, e_isiII, e_isiTT, e_isiLL]; rfl, _, by simp [lb_spot_of_1, e_tUnl, e_ext, e_ext0, e_ext1, e_ext2, e_dix, e_dix1, e_dix2, e_look, e_rev, e_rev1, e_lr1, e_lr11, e_isE1, e_isE2, e_isE3, e_isE4, e_isE5, e_isE6, e_try, e_try1, e_try2, e_eqAS, e_neAS, e_eqAI, e_neAI, e_bind_ok, e_bind_exc, e_bind_stk, e_var, e_var1, e_var2, e_move, e_move1, e_move2, e_C, e_fin1, e_bin, e_bin1, e_bin2, e_chain, e_chain1, e_chain2, e_chain3, e_chain4, e_chain5, e_if, e_if1, e_if2, e_tv, e_tv1, e_notT, e_notT1, e_andT, e_andT1, e_andT2, e_orT, e_orT1, e_orT2, e_andV, e_andV1, e_andV2, e_orV, e_orV1, e_orV2, e_notV, e_notV1, e_aNil, e_aCons, e_aCons1, e_aCons2, e_star, e_star1, e_star2, e_star3, e_lst, e_lst1, e_tup, e_tup1, e_call, e_call1, e_slot, e_slot1, e_sb, e_sb0, e_sb1, e_sb2, e_sb3, e_bs, e_bs1, e_bs2, e_lenV, e_lenV1, e_un, e_un1, e_def, e_def1, e_def2, e_def3, e_fix0, e_fix1, e_fix2, e_def4, e_def0, e_def01, e_jNil, e_jVal, e_jVal1, e_j2, e_jIo, e_jIo1, e_itD0, e_itD1, e_itD2, e_itD3, e_itJ0, e_itJ1, e_itJ2, e_itP0, e_itP1, e_itP2, e_setMany0, e_setMany1, e_nodup0, e_nodup1, e_noPart, e_part, e_part1, e_slice, e_slice1, e_slice2, e_slice3, e_lstRg, e_lstRg1, e_lstRg2, e_iSeq, e_iSeq1, e_iSeq2, e_iEn, e_iEn1, e_iEn2, e_iR1, e_iR11, e_iR2, e_iR21, e_yes, e_lc, e_lc1, e_lc2, e_wipe0, e_wipe1, e_back0, e_back1, e_back2, e_noneOwn0, e_noneOwn1, e_noneOwn2, e_noneOwn3, e_noneOwn4, e_name, e_set, e_tNil, e_tCons, e_tCons1, e_tTup, e_seq, e_seq1, e_seq2, e_seq3, e_seq4, e_seq5, e_next, e_break, e_cont, e_expr, e_expr1, e_ret, e_ret1, e_sIf, e_sIf1, e_sIf2, e_asg, e_asg1, e_asg2, e_aug, e_aug0, e_aug1, e_aug2, e_aug3, e_par, e_par1, e_par2, e_app, e_app0, e_app1, e_app2, e_setIx, e_setIx0, e_setIx1, e_setIx2, e_setIx3, e_setIx4, e_match, e_match1, e_mCase, e_mAny, e_raise, e_for, e_body, e_body1, e_body2, e_body3, e_body4, e_body5, e_outs0, e_outs1, e_outs2, e_start0, e_start1, e_addI, e_addL, e_addI2, e_sub, e_cmp, e_eqI, e_neI, e_eqB, e_isN0, e_isN1, e_isN2, e_isN3, e_notN0, e_notN1, e_notN2, e_notN3, e_int, e_intB, e_max, e_min, e_neg, e_bits, e_lenL, e_lenT, e_lenS, e_ixL, e_ixT, e_ixS, e_at0, e_at1, e_at2, e_map, e_lstOf, e_lstOfS, e_seqOf, e_seqOfT, e_seqOfS, e_isiIB, e_isiII, e_isiTT, e_isiLL, e1, e2]; rfl, ?_⟩
      exact ⟨some (false, .int i), some (false, .int (ws i)), by simp [psum, b]⟩
    · rw [b] at e2
      simp only [Int.natCast_zero, Int.natCast_one] at e2
      refine ⟨_, by simp [e_tUnl, e_ext, e_ext0, e_ext1, e_ext2, e_dix, e_dix1, e_dix2, e_look, e_rev, e_rev1, e_lr1, e_lr11, e_isE1, e_isE2, e_isE3, e_isE4, e_isE5, e_isE6, e_try, e_try1, e_try2, e_eqAS, e_neAS, e_eqAI, e_neAI, e_bind_ok, e_bind_exc, e_bind_stk, e_var, e_var1, e_var2, e_move, e_move1, e_move2, e_C, e_fin1, e_bin, e_bin1, e_bin2, e_chain, e_chain1, e_chain2, e_chain3, e_chain4, e_chain5, e_if, e_if1, e_if2, e_tv, e_tv1, e_notT, e_notT1, e_andT, e_andT1, e_andT2, e_orT, e_orT1, e_orT2, e_andV, e_andV1, e_andV2, e_orV, e_orV1, e_orV2, e_notV, e_notV1, e_aNil, e_aCons, e_aCons1, e_aCons2, e_star, e_star1, e_star2, e_star3, e_lst, e_lst1, e_tup, e_tup1, e_call, e_call1, e_slot, e_slot1, e_sb, e_sb0, e_sb1, e_sb2, e_sb3, e_bs, e_bs1, e_bs2, e_lenV, e_lenV1, e_un, e_un1, e_def, e_def1, e_def2, e_def3, e_fix0, e_fix1, e_fix2, e_def4, e_def0, e_def01, e_jNil, e_jVal, e_jVal1, e_j2, e_jIo, e_jIo1, e_itD0, e_itD1, e_itD2, e_itD3, e_itJ0, e_itJ1, e_itJ2, e_itP0, e_itP1, e_itP2, e_setMany0, e_setMany1, e_nodup0, e_nodup1, e_noPart, e_part, e_part1, e_slice, e_slice1, e_slice2, e_slice3, e_lstRg, e_lstRg1, e_lstRg2, e_iSeq, e_iSeq1, e_iSeq2, e_iEn, e_iEn1, e_iEn2, e_iR1, e_iR11, e_iR2, e_iR21, e_yes, e_lc, e_lc1, e_lc2, e_wipe0, e_wipe1, e_back0, e_back1, e_back2, e_noneOwn0, e_noneOwn1, e_noneOwn2, e_noneOwn3, e_noneOwn4, e_name, e_set, e_tNil, e_tCons, e_tCons1, e_tTup, e_seq, e_seq1, e_seq2, e_seq3, e_seq4, e_seq5, e_next, e_break, e_cont, e_expr, e_expr1, e_ret, e_ret1, e_sIf, e_sIf1, e_sIf2, e_asg, e_asg1, e_asg2, e_aug, e_aug0, e_aug1, e_aug2, e_aug3, e_par, e_par1, e_par2, e_app, e_app0, e_app1, e_app2, e_setIx, e_setIx0, e_setIx1, e_setIx2, e_setIx3, e_setIx4, e_match, e_match1, e_mCase, e_mAny, e_raise, e_for, e_body, e_body1, e_body2, e_body3, e_body4, e_body5, e_outs0, e_outs1, e_outs2, e_start0, e_start1, e_addI, e_addL, e_addI2, e_sub, e_cmp, e_eqI, e_neI, e_eqB, e_isN0, e_isN1, e_isN2, e_isN3, e_notN0, e_notN1, e_notN2, e_notN3, e_int, e_intB, e_max, e_min, e_neg, e_bits, e_lenL, e_lenT, e_lenS, e_ixL, e_ixT, e_ixS, e_at0, e_at1, e_at2, e_map, e_lstOf, e_lstOfS, e_seqOf, e_seqOfT, e_seqOfS, e_isiIB, e_isiII, e_isiTT, e_isiLL]; rfl, _, by simp [lb_spot_of_1, e_tUnl, e_ext, e_ext0, e_ext1, e_ext2, e_dix, e_dix1, e_dix2, e_look, e_rev, e_rev1, e_lr1, e_lr11, e_isE1, e_isE2, e_isE3, e_isE4, e_isE5, e_isE6, e_try, e_try1, e_try2, e_eqAS, e_neAS, e_eqAI, e_neAI, e_bind_ok, e_bind_exc, e_bind_stk, e_var, e_var1, e_var2, e_move, e_move1, e_move2, e_C, e_fin1, e_bin, e_bin1, e_bin2, e_chain, e_chain1, e_chain2, e_chain3, e_chain4, e_chain5, e_if, e_if1, e_if2, e_tv, e_tv1, e_notT, e_notT1, e_andT, e_andT1, e_andT2, e_orT, e_orT1, e_orT2, e_andV, e_andV1, e_andV2, e_orV, e_orV1, e_orV2, e_notV, e_notV1, e_aNil, e_aCons, e_aCons1, e_aCons2, e_star, e_star1, e_star2, e_star3, e_lst, e_lst1, e_tup, e_tup1, e_call, e_call1, e_slot, e_slot1, e_sb, e_sb0, e_sb1, e_sb2, e_sb3, e_bs, e_bs1, e_bs2, e_lenV, e_lenV1, e_un, e_un1, e_def, e_def1, e_def2, e_def3, e_fix0, e_fix1, e_fix2, e_def4, e_def0, e_def01, e_jNil, e_jVal, e_jVal1, e_j2, e_jIo, e_jIo1, e_itD0, e_itD1, e_itD2, e_itD3, e_itJ0, e_itJ1, e_itJ2, e_itP0, e_itP1, e_itP2, e_setMany0, e_setMany1, e_nodup0, e_nodup1, e_noPart, e_part, e_part1, e_slice, e_slice1, e_slice2, e_slice3, e_lstRg, e_lstRg1, e_lstRg2, e_iSeq, e_iSeq1, e_iSeq2, e_iEn, e_iEn1, e_iEn2, e_iR1, e_iR11, e_iR2, e_iR21, e_yes, e_lc, e_lc1, e_lc2, e_wipe0, e_wipe1, e_back0, e_back1, e_back2, e_noneOwn0, e_noneOwn1, e_noneOwn2, e_noneOwn3, e_noneOwn4, e_name, e_set, e_tNil, e_tCons, e_tCons1, e_tTup, e_seq, e_seq1, e_seq2, e_seq3, e_seq4, e_seq5, e_next, e_break, e_cont, e_expr, e_expr1, e_ret, e_ret1, e_sIf, e_sIf1, e_sIf2, e_asg, e_asg1, e_asg2, e_aug, e_aug0, e_aug1, e_aug2, e_aug3, e_par, e_par1, e_par2, e_app, e_app0, e_app1, e_app2, e_setIx, e_setIx0, e_setIx1, e_setIx2, e_setIx3, e_setIx4, e_match, e_match1, e_mCase, e_mAny, e_raise, e_for, e_body, e_body1, e_body2, e_body3, e_body4, e_body5, e_outs0, e_outs1, e_outs2, e_start0, e_start1, e_addI, e_addL, e_addI2, e_sub, e_cmp, e_eqI, e_neI, e_eqB, e_isN0, e_isN1, e_isN2, e_isN3, e_notN0, e_notN1, e_notN2, e_notN3, e_int, e_intB, e_max, e_min, e_neg, e_bits, e_lenL, e_lenT, e_lenS, e_ixL, e_ixT, e_ixS, e_at0, e_at1, e_at2, e_map, e_lstOf, e_lstOfS, e_seqOf, e_seqOfT, e_seqOfS, e_isiIB, e_isiII, e_isiTT, e_isiLL, e1, e2]; rfl, ?_⟩
      exact ⟨some (false, .int i), some (false, .int (ws i)), by simp [psum, b, Int.add_assoc]⟩
end SM

namespace SM
open PySem PySem.Spec DL
open PyProof.Rows hiding St
theorem p2pos (k : Nat) : 0 < 2 ^ k := Nat.two_pow_pos k
theorem p2s {a b : Nat} (h : a = b + 1) : 2 ^ a = 2 ^ b * 2 := by rw [h, Nat.pow_succ]
theorem div_step (n k : Nat) : n / 2 ^ (k + 1) = n / 2 ^ k / 2 := by rw [Nat.pow_succ, Nat.div_div_eq_div_mul]
theorem bt_01 (n k : Nat) : bt n k = 0 ∨ bt n k = 1 := by unfold bt; omega
theorem bt_dbl (g b k : Nat) (hb : b < 2) : bt (2 * g + b) (k + 1) = bt g k := by
  unfold bt
  rw [Nat.pow_succ, Nat.mul_comm (2 ^ k) 2, ← Nat.div_div_eq_div_mul, show (2 * g + b) / 2 = g by omega]
theorem bt_mod (n m k : Nat) (hk : k < m) : bt (n % 2 ^ m) k = bt n k := by
  unfold bt
  have e : 2 ^ m = 2 ^ k * (2 * 2 ^ (m - k - 1)) := by rw [← Nat.pow_succ', ← Nat.pow_add]; congr 1; omega
  have h := Nat.div_add_mod n (2 ^ m)
  generalize n % 2 ^ m = r at *
  generalize n / 2 ^ m = q at *
  rw [← h, e, Nat.mul_assoc, Nat.mul_add_div (p2pos k), Nat.mul_assoc, Nat.mul_add_mod]
theorem bt_div (n a b : Nat) : bt (n / 2 ^ a) b = bt n (a + b) := by
  unfold bt
  rw [Nat.div_div_eq_div_mul, ← Nat.pow_add]
theorem bt_top (n d : Nat) (hn : n < 2 ^ (d + 1)) : bt n d = n / 2 ^ d := by
  unfold bt
  refine Nat.mod_eq_of_lt ?_
  rw [Nat.div_lt_iff_lt_mul (p2pos d)]
  rw [Nat.pow_succ] at hn
  omega
theorem half_bt (n d j : Nat) (hj : j < d) : n / 2 ^ (d - (j + 1)) = 2 * (n / 2 ^ (d - j)) + bt n (d - 1 - j) := by
  have e1 : n / 2 ^ (d - j) = n / 2 ^ (d - (j + 1)) / 2 := by rw [show d - j = d - (j + 1) + 1 by omega, div_step]
  unfold bt
  rw [e1, show d - 1 - j = d - (j + 1) by omega]
  omega
def sN (d n : Nat) (ws : Nat → Nat) : Nat → Nat
  | 0 => 0
  | i + 1 => sN d n ws i + bt n (d - 1 - i) * ws i
theorem psum_N (d n : Nat) (ws : Nat → Nat) : ∀ i, psum d n (fun i => (ws i : Int)) i = (sN d n ws i : Int)
  | 0 => rfl
  | i + 1 => by
    unfold psum sN
    rw [psum_N d n ws i, Int.natCast_add, Int.natCast_mul]
theorem sN_congr (d n : Nat) {ws ws' : Nat → Nat} : ∀ i, (∀ j, j < i → ws j = ws' j) → sN d n ws i = sN d n ws' i
  | 0, _ => rfl
  | i + 1, h => by
    unfold sN
    rw [sN_congr d n i (fun j hj => h j (by omega)), h i (by omega)]
theorem sN_geo (t m c : Nat) (hm : m < 2 ^ t) : sN t m (fun i => c * 2 ^ (t - 1 - i)) t = c * m := by
  have aux : ∀ j, j ≤ t → sN t m (fun i => c * 2 ^ (t - 1 - i)) j = c * (m / 2 ^ (t - j) * 2 ^ (t - j)) := by
    intro j
    induction j with
    | zero =>
      intro _
      rw [Nat.sub_zero, Nat.div_eq_of_lt hm]
      simp [sN]
    | succ j ih =>
      intro hj
      have e2 : 2 ^ (t - j) = 2 ^ (t - (j + 1)) * 2 := p2s (by omega)
      unfold sN
      rw [ih (by omega), half_bt m t j (by omega), e2, show t - 1 - j = t - (j + 1) by omega]
      generalize m / (2 ^ (t - (j + 1)) * 2) = q
      generalize bt m _ = b
      generalize 2 ^ (t - (j + 1)) = p
      rw [Nat.mul_left_comm b c p, ← Nat.mul_add]
      congr 1
      rw [Nat.add_mul, Nat.mul_comm p 2, ← Nat.mul_assoc, Nat.mul_comm q 2]
  have := aux t (Nat.le_refl _)
  rw [Nat.sub_self, Nat.pow_zero, Nat.div_one, Nat.mul_one] at this
  exact this
theorem sN_split (d n t : Nat) (ht : t ≤ d) (ws : Nat → Nat) : sN d n ws d = sN t (n / 2 ^ (d - t)) ws t + sN (d - t) (n % 2 ^ (d - t)) (fun i => ws (t + i)) (d - t) := by
  have a : ∀ j, j ≤ t → sN d n ws j = sN t (n / 2 ^ (d - t)) ws j := by
    intro j
    induction j with
    | zero => intro _; rfl
    | succ j ih =>
      intro hj
      unfold sN
      rw [ih (by omega), bt_div, show d - t + (t - 1 - j) = d - 1 - j by omega]
  have b : ∀ i, i ≤ d - t → sN d n ws (t + i) = sN t (n / 2 ^ (d - t)) ws t + sN (d - t) (n % 2 ^ (d - t)) (fun i => ws (t + i)) i := by
    intro i
    induction i with
    | zero => intro _; rw [Nat.add_zero, a t (Nat.le_refl _)]; rfl
    | succ i ih =>
      intro hi
      show sN d n ws (t + i) + bt n (d - 1 - (t + i)) * ws (t + i) = _ + (sN (d - t) (n % 2 ^ (d - t)) (fun i => ws (t + i)) i + bt (n % 2 ^ (d - t)) (d - t - 1 - i) * ws (t + i))
      rw [ih (by omega), bt_mod _ _ _ (by omega), show d - 1 - (t + i) = d - t - 1 - i by omega, Nat.add_assoc]
  have := b (d - t) (Nat.le_refl _)
  rwa [show t + (d - t) = d by omega] at this
theorem sN_1 (b : Nat) (hb : b < 2) (ws : Nat → Nat) : sN 1 b ws 1 = b * ws 0 := by
  have : bt b 0 = b := by unfold bt; rw [Nat.pow_zero, Nat.div_one]; omega
  show 0 + bt b 0 * ws 0 = _
  rw [this, Nat.zero_add]
theorem top_bit (d n : Nat) (hd : 1 ≤ d) (hn : n < 2 ^ d) : n / 2 ^ (d - 1) < 2 := by
  rw [Nat.div_lt_iff_lt_mul (p2pos _), ← Nat.pow_succ']
  rwa [show (d - 1).succ = d by omega]
theorem sN_first (d n : Nat) (hd : 1 ≤ d) (hn : n < 2 ^ d) (ws : Nat → Nat) : sN d n ws d = n / 2 ^ (d - 1) * ws 0 + sN (d - 1) (n % 2 ^ (d - 1)) (fun i => ws (1 + i)) (d - 1) := by
  rw [sN_split d n 1 hd ws, sN_1 _ (top_bit d n hd hn)]
theorem psum_dbl (ws : Nat → Int) (g b : Nat) (hb : b < 2) (j : Nat) : ∀ i, i ≤ j → psum (j + 1) (2 * g + b) ws i = psum j g ws i
  | 0, _ => rfl
  | i + 1, h => by
    unfold psum
    rw [psum_dbl ws g b hb j i (by omega), show j + 1 - 1 - i = (j - 1 - i) + 1 by omega, bt_dbl g b _ hb]
theorem grd_id (ws : Nat → Int) (L : Int) : ∀ j, L = (grd ws L j).1 + psum j (grd ws L j).2.toNat ws j
  | 0 => by simp [grd, psum]
  | j + 1 => by
    have ih := grd_id ws L j
    have hb := grd_b ws L j
    unfold grd
    by_cases c : ws j ≤ (grd ws L j).1
    · rw [if_pos c]
      dsimp only
      have e : (2 * (grd ws L j).2 + 1).toNat = 2 * (grd ws L j).2.toNat + 1 := by omega
      rw [e]
      unfold psum
      rw [psum_dbl _ _ _ (by omega) j j (Nat.le_refl _), show j + 1 - 1 - j = 0 by omega]
      have e2 : bt (2 * (grd ws L j).2.toNat + 1) 0 = 1 := by unfold bt; rw [Nat.pow_zero, Nat.div_one]; omega
      rw [e2]
      simp only [Int.natCast_one, Int.one_mul]
      omega
    · rw [if_neg c]
      dsimp only
      have e : (2 * (grd ws L j).2).toNat = 2 * (grd ws L j).2.toNat + 0 := by omega
      rw [e]
      unfold psum
      rw [psum_dbl _ _ _ (by omega) j j (Nat.le_refl _), show j + 1 - 1 - j = 0 by omega]
      have e2 : bt (2 * (grd ws L j).2.toNat + 0) 0 = 0 := by unfold bt; rw [Nat.pow_zero, Nat.div_one]; omega
      rw [e2]
      simp only [Int.natCast_zero, Int.zero_mul]
      omega
/-- the weights fall faster than their sum -/
def Fall (d : Nat) (ws B : Nat → Nat) : Prop := 1 ≤ B d ∧ ∀ i, i < d → B (i + 1) ≤ ws i ∧ ws i + B (i + 1) ≤ B i
theorem sN_tail {d : Nat} {ws B : Nat → Nat} (f : Fall d ws B) (n : Nat) : ∀ k, k ≤ d → sN d n ws (d - k) ≤ sN d n ws d ∧ sN d n ws d < sN d n ws (d - k) + B (d - k)
  | 0, _ => by
    have := f.1
    simp only [Nat.sub_zero]
    omega
  | k + 1, hk => by
    have ih := sN_tail f n k (by omega)
    have hs := f.2 (d - (k + 1)) (by omega)
    rw [show d - (k + 1) + 1 = d - k by omega] at hs
    have e : sN d n ws (d - k) = sN d n ws (d - (k + 1)) + bt n (d - 1 - (d - (k + 1))) * ws (d - (k + 1)) := by
      rw [show d - k = d - (k + 1) + 1 by omega]
      rfl
    rcases bt_01 n (d - 1 - (d - (k + 1))) with b | b <;> rw [b] at e <;> simp only [Nat.zero_mul, Nat.one_mul] at e <;> omega
theorem grd_fall {d : Nat} {ws B : Nat → Nat} (f : Fall d ws B) (n : Nat) (hn : n < 2 ^ d) :
    grd (fun i => (ws i : Int)) ((sN d n ws d : Nat) : Int) d = (0, (n : Int)) := by
  have aux : ∀ j, j ≤ d → grd (fun i => (ws i : Int)) ((sN d n ws d : Nat) : Int) j = (((sN d n ws d : Nat) : Int) - ((sN d n ws j : Nat) : Int), ((n / 2 ^ (d - j) : Nat) : Int)) := by
    intro j
    induction j with
    | zero =>
      intro _
      rw [Nat.sub_zero, Nat.div_eq_of_lt hn]
      simp [grd, sN]
    | succ j ih =>
      intro hj
      unfold grd
      rw [ih (by omega)]
      dsimp only
      have t1 := sN_tail f n (d - j) (by omega)
      have t2 := sN_tail f n (d - (j + 1)) (by omega)
      rw [show d - (d - j) = j by omega] at t1
      rw [show d - (d - (j + 1)) = j + 1 by omega] at t2
      have hs := f.2 j (by omega)
      have e : sN d n ws (j + 1) = sN d n ws j + bt n (d - 1 - j) * ws j := rfl
      rw [half_bt n d j (by omega)]
      rcases bt_01 n (d - 1 - j) with b | b
      · rw [b] at e ⊢
        simp only [Nat.zero_mul] at e
        rw [if_neg (by omega)]
        congr 1
        · omega
        all_goals omega
      · rw [b] at e ⊢
        simp only [Nat.one_mul] at e
        rw [if_pos (by omega)]
        congr 1
        · omega
        all_goals omega
  have := aux d (Nat.le_refl _)
  rw [Nat.sub_self, Nat.pow_zero, Nat.div_one] at this
  rw [this]
  simp
structure Bij (h : Nat) (s : Nat → Nat → Nat) : Prop where
  lt : ∀ d n, d < h → n < 2 ^ d → s d n + 1 < 2 ^ h
  on : ∀ p, p + 1 < 2 ^ h → ∃ d n, d < h ∧ n < 2 ^ d ∧ s d n = p
  inj : ∀ d n d' n', d < h → n < 2 ^ d → d' < h → n' < 2 ^ d' → s d n = s d' n' → d = d' ∧ n = n'
theorem div_lt_p {n d t : Nat} (hn : n < 2 ^ d) (ht : t ≤ d) : n / 2 ^ (d - t) < 2 ^ t := by
  rw [Nat.div_lt_iff_lt_mul (p2pos _), ← Nat.pow_add, show t + (d - t) = d by omega]
  exact hn
theorem mod_lt_p (n k : Nat) : n % 2 ^ k < 2 ^ k := Nat.mod_lt _ (p2pos k)
theorem bij_cut {h t : Nat} {s1 s2 s : Nat → Nat → Nat} {f g : Nat → Nat} (ht : t < h) (b1 : Bij t s1) (b2 : Bij (h - t) s2)
    (top : ∀ d n, d < t → n < 2 ^ d → s d n = f (s1 d n))
    (bot : ∀ d n, t ≤ d → d < h → n < 2 ^ d → s d n = g (n / 2 ^ (d - t)) + s2 (d - t) (n % 2 ^ (d - t)))
    (f1 : ∀ q, q + 1 < 2 ^ t → f q + 1 < 2 ^ h)
    (g1 : ∀ j r, j < 2 ^ t → r + 1 < 2 ^ (h - t) → g j + r + 1 < 2 ^ h)
    (fi : ∀ q q', q + 1 < 2 ^ t → q' + 1 < 2 ^ t → f q = f q' → q = q')
    (fg : ∀ q j r, q + 1 < 2 ^ t → j < 2 ^ t → r + 1 < 2 ^ (h - t) → f q ≠ g j + r)
    (gi : ∀ j r j' r', j < 2 ^ t → r + 1 < 2 ^ (h - t) → j' < 2 ^ t → r' + 1 < 2 ^ (h - t) → g j + r = g j' + r' → j = j' ∧ r = r')
    (cov : ∀ p, p + 1 < 2 ^ h → (∃ q, q + 1 < 2 ^ t ∧ f q = p) ∨ ∃ j r, j < 2 ^ t ∧ r + 1 < 2 ^ (h - t) ∧ g j + r = p) : Bij h s where
  lt := by
    intro d n hd hn
    by_cases c : d < t
    · rw [top d n c hn]
      exact f1 _ (b1.lt d n c hn)
    · rw [bot d n (by omega) hd hn]
      exact g1 _ _ (div_lt_p hn (by omega)) (b2.lt _ _ (by omega) (mod_lt_p _ _))
  on := by
    intro p hp
    rcases cov p hp with ⟨q, h1, h2⟩ | ⟨j, r, h1, h2, h3⟩
    · obtain ⟨d, n, a1, a2, a3⟩ := b1.on q h1
      exact ⟨d, n, by omega, a2, by rw [top d n a1 a2, a3, h2]⟩
    · obtain ⟨d, n, a1, a2, a3⟩ := b2.on r h2
      have e1 : (j * 2 ^ d + n) / 2 ^ d = j := by rw [Nat.mul_comm, Nat.mul_add_div (p2pos d), Nat.div_eq_of_lt a2, Nat.add_zero]
      have e2 : (j * 2 ^ d + n) % 2 ^ d = n := by rw [Nat.mul_comm, Nat.mul_add_mod, Nat.mod_eq_of_lt a2]
      have e3 : j * 2 ^ d + n < 2 ^ (t + d) := by
        rw [Nat.pow_add]
        have : (j + 1) * 2 ^ d ≤ 2 ^ t * 2 ^ d := Nat.mul_le_mul_right _ h1
        rw [Nat.add_mul, Nat.one_mul] at this
        omega
      refine ⟨t + d, j * 2 ^ d + n, by omega, e3, ?_⟩
      rw [bot _ _ (by omega) (by omega) e3, show t + d - t = d by omega, e1, e2, a3, h3]
  inj := by
    intro d n d' n' hd hn hd' hn' e
    by_cases c : d < t <;> by_cases c' : d' < t
    · rw [top d n c hn, top d' n' c' hn'] at e
      exact b1.inj _ _ _ _ c hn c' hn' (fi _ _ (b1.lt _ _ c hn) (b1.lt _ _ c' hn') e)
    · rw [top d n c hn, bot d' n' (by omega) hd' hn'] at e
      exact absurd e (fg _ _ _ (b1.lt _ _ c hn) (div_lt_p hn' (by omega)) (b2.lt _ _ (by omega) (mod_lt_p _ _)))
    · rw [top d' n' c' hn', bot d n (by omega) hd hn] at e
      exact absurd e.symm (fg _ _ _ (b1.lt _ _ c' hn') (div_lt_p hn (by omega)) (b2.lt _ _ (by omega) (mod_lt_p _ _)))
    · rw [bot d n (by omega) hd hn, bot d' n' (by omega) hd' hn'] at e
      obtain ⟨e1, e2⟩ := gi _ _ _ _ (div_lt_p hn (by omega)) (b2.lt _ _ (by omega) (mod_lt_p _ _)) (div_lt_p hn' (by omega)) (b2.lt _ _ (by omega) (mod_lt_p _ _)) e
      obtain ⟨e3, e4⟩ := b2.inj _ _ _ _ (by omega) (mod_lt_p _ _) (by omega) (mod_lt_p _ _) e2
      have e5 : d = d' := by omega
      subst e5
      refine ⟨rfl, ?_⟩
      rw [← Nat.div_add_mod n (2 ^ (d - t)), ← Nat.div_add_mod n' (2 ^ (d - t)), e1, e4]
end SM

namespace SM
open PySem PySem.Spec DL
open PyProof.Rows hiding St
inductive Kd | lev | ino | pre | post | les | gre | pow
deriving DecidableEq
def isCut : Kd → Bool
  | .les | .gre | .pow => true
  | _ => false
def topOf : Kd → Nat → Nat
  | .les, h => h / 2
  | .gre, h => (h + 1) / 2
  | _, h => h - 2 ^ Nat.log2 (h - 1)
theorem topOf_b (k : Kd) (h : Nat) (hh : 2 ≤ h) : 1 ≤ topOf k h ∧ topOf k h < h := by
  have a : 2 ^ Nat.log2 (h - 1) ≤ h - 1 := Nat.log2_self_le (by omega)
  have b := p2pos (Nat.log2 (h - 1))
  cases k <;> simp only [topOf] <;> omega
def cnum (k : Kd) (h d : Nat) : Nat :=
  if c : 2 ≤ h then if d < topOf k h then cnum k (topOf k h) d else 2 ^ topOf k h - 1 + cnum k (h - topOf k h) (d - topOf k h) else 0
termination_by h
decreasing_by
  · exact (topOf_b k h c).2
  · have := (topOf_b k h c).1
    omega
def cws (k : Kd) (h d i : Nat) : Nat :=
  if c : 2 ≤ h then if d < topOf k h then cws k (topOf k h) d i
    else if i < topOf k h then (2 ^ (h - topOf k h) - 1) * 2 ^ (topOf k h - 1 - i) else cws k (h - topOf k h) (d - topOf k h) (i - topOf k h) else 0
termination_by h
decreasing_by
  · exact (topOf_b k h c).2
  · have := (topOf_b k h c).1
    omega
def num : Kd → Nat → Nat → Nat
  | .lev, _, d => 2 ^ d - 1
  | .ino, h, d => 2 ^ (h - 1 - d) - 1
  | .pre, _, d => d
  | .post, h, d => 2 ^ (h - d) - 2
  | k, h, d => cnum k h d
def ws : Kd → Nat → Nat → Nat → Nat
  | .lev, _, d, i => 2 ^ (d - 1 - i)
  | .ino, h, _, i => 2 ^ (h - 1 - i)
  | .pre, h, _, i => 2 ^ (h - 1 - i) - 1
  | .post, h, _, i => 2 ^ (h - 1 - i) - 1
  | k, h, d, i => cws k h d i
def sp (k : Kd) (h d n : Nat) : Nat := num k h d + sN d n (ws k h d) d
theorem num_cut {k : Kd} (hk : isCut k = true) (h d : Nat) : num k h d = cnum k h d := by cases k <;> first | rfl | cases hk
theorem ws_cut {k : Kd} (hk : isCut k = true) (h d : Nat) : ws k h d = cws k h d := by cases k <;> first | rfl | cases hk
theorem num_t {k : Kd} (hk : isCut k = true) {h d : Nat} (hh : 2 ≤ h) (hd : d < topOf k h) : num k h d = num k (topOf k h) d := by
  rw [num_cut hk, num_cut hk, cnum, dif_pos hh, if_pos hd]
theorem num_b {k : Kd} (hk : isCut k = true) {h d : Nat} (hh : 2 ≤ h) (hd : topOf k h ≤ d) : num k h d = 2 ^ topOf k h - 1 + num k (h - topOf k h) (d - topOf k h) := by
  rw [num_cut hk, num_cut hk, cnum, dif_pos hh, if_neg (by omega)]
theorem ws_t {k : Kd} (hk : isCut k = true) {h d : Nat} (hh : 2 ≤ h) (hd : d < topOf k h) (i : Nat) : ws k h d i = ws k (topOf k h) d i := by
  rw [ws_cut hk, ws_cut hk, cws, dif_pos hh, if_pos hd]
theorem ws_b1 {k : Kd} (hk : isCut k = true) {h d i : Nat} (hh : 2 ≤ h) (hd : topOf k h ≤ d) (hi : i < topOf k h) : ws k h d i = (2 ^ (h - topOf k h) - 1) * 2 ^ (topOf k h - 1 - i) := by
  rw [ws_cut hk, cws, dif_pos hh, if_neg (by omega), if_pos hi]
theorem ws_b2 {k : Kd} (hk : isCut k = true) {h d i : Nat} (hh : 2 ≤ h) (hd : topOf k h ≤ d) (hi : topOf k h ≤ i) : ws k h d i = ws k (h - topOf k h) (d - topOf k h) (i - topOf k h) := by
  rw [ws_cut hk, ws_cut hk, cws, dif_pos hh, if_neg (by omega), if_neg (by omega)]
theorem num_1 {k : Kd} (hk : isCut k = true) {h d : Nat} (hh : h ≤ 1) : num k h d = 0 := by
  rw [num_cut hk, cnum, dif_neg (by omega)]
theorem sp_lev (h d n : Nat) (hn : n < 2 ^ d) : sp .lev h d n = 2 ^ d - 1 + n := by
  have := sN_geo d n 1 hn
  simp only [Nat.one_mul] at this
  unfold sp
  rw [show num .lev h d = 2 ^ d - 1 from rfl]
  rw [show ws .lev h d = fun i => 2 ^ (d - 1 - i) from rfl, this]
theorem sp_cut_t {k : Kd} (hk : isCut k = true) {h d : Nat} (n : Nat) (hh : 2 ≤ h) (hd : d < topOf k h) : sp k h d n = sp k (topOf k h) d n := by
  unfold sp
  rw [num_t hk hh hd, sN_congr d n d (fun j _ => ws_t hk hh hd j)]
theorem sp_cut_b {k : Kd} (hk : isCut k = true) {h d : Nat} (n : Nat) (hh : 2 ≤ h) (hd : topOf k h ≤ d) (hn : n < 2 ^ d) :
    sp k h d n = 2 ^ topOf k h - 1 + n / 2 ^ (d - topOf k h) * (2 ^ (h - topOf k h) - 1) + sp k (h - topOf k h) (d - topOf k h) (n % 2 ^ (d - topOf k h)) := by
  unfold sp
  rw [num_b hk hh hd, sN_split d n (topOf k h) hd]
  rw [sN_congr (topOf k h) (n / 2 ^ (d - topOf k h)) (topOf k h) (fun j hj => ws_b1 hk hh hd hj)]
  rw [sN_geo _ _ _ (div_lt_p hn hd)]
  rw [sN_congr (ws := fun i => ws k h d (topOf k h + i)) (ws' := ws k (h - topOf k h) (d - topOf k h)) (d - topOf k h) (n % 2 ^ (d - topOf k h)) (d - topOf k h) (fun j _ => by rw [ws_b2 hk hh hd (by omega)]; congr 1; omega)]
  rw [Nat.mul_comm (2 ^ (h - topOf k h) - 1)]
  omega
theorem sp_pre0 (h n : Nat) : sp .pre h 0 n = 0 := rfl
theorem sp_ino0 (h n : Nat) : sp .ino h 0 n = 2 ^ (h - 1) - 1 := rfl
theorem sp_post0 (h n : Nat) : sp .post h 0 n = 2 ^ h - 2 := rfl
theorem sp_pre (h d n : Nat) (hd : 1 ≤ d) (hn : n < 2 ^ d) : sp .pre h d n = 1 + n / 2 ^ (d - 1) * (2 ^ (h - 1) - 1) + sp .pre (h - 1) (d - 1) (n % 2 ^ (d - 1)) := by
  unfold sp
  rw [sN_first d n hd hn]
  rw [sN_congr (ws := fun i => ws .pre h d (1 + i)) (ws' := ws .pre (h - 1) (d - 1)) (d - 1) (n % 2 ^ (d - 1)) (d - 1) (fun j _ => by show 2 ^ (h - 1 - (1 + j)) - 1 = 2 ^ (h - 1 - 1 - j) - 1; congr 2; omega)]
  rw [show ws .pre h d 0 = 2 ^ (h - 1) - 1 from rfl, show num .pre h d = d from rfl, show num .pre (h - 1) (d - 1) = d - 1 from rfl]
  omega
theorem sp_ino (h d n : Nat) (hd : 1 ≤ d) (hn : n < 2 ^ d) : sp .ino h d n = n / 2 ^ (d - 1) * 2 ^ (h - 1) + sp .ino (h - 1) (d - 1) (n % 2 ^ (d - 1)) := by
  unfold sp
  rw [sN_first d n hd hn]
  rw [sN_congr (ws := fun i => ws .ino h d (1 + i)) (ws' := ws .ino (h - 1) (d - 1)) (d - 1) (n % 2 ^ (d - 1)) (d - 1) (fun j _ => by show 2 ^ (h - 1 - (1 + j)) = 2 ^ (h - 1 - 1 - j); congr 1; omega)]
  rw [show ws .ino h d 0 = 2 ^ (h - 1) from rfl, show num .ino h d = 2 ^ (h - 1 - d) - 1 from rfl, show num .ino (h - 1) (d - 1) = 2 ^ (h - 1 - 1 - (d - 1)) - 1 from rfl, show h - 1 - 1 - (d - 1) = h - 1 - d by omega]
  omega
theorem sp_post (h d n : Nat) (hd : 1 ≤ d) (hn : n < 2 ^ d) : sp .post h d n = n / 2 ^ (d - 1) * (2 ^ (h - 1) - 1) + sp .post (h - 1) (d - 1) (n % 2 ^ (d - 1)) := by
  unfold sp
  rw [sN_first d n hd hn]
  rw [sN_congr (ws := fun i => ws .post h d (1 + i)) (ws' := ws .post (h - 1) (d - 1)) (d - 1) (n % 2 ^ (d - 1)) (d - 1) (fun j _ => by show 2 ^ (h - 1 - (1 + j)) - 1 = 2 ^ (h - 1 - 1 - j) - 1; congr 2; omega)]
  rw [show ws .post h d 0 = 2 ^ (h - 1) - 1 from rfl, show num .post h d = 2 ^ (h - d) - 2 from rfl, show num .post (h - 1) (d - 1) = 2 ^ (h - 1 - (d - 1)) - 2 from rfl, show h - 1 - (d - 1) = h - d by omega]
  omega
theorem bij_0 (s : Nat → Nat → Nat) : Bij 0 s where
  lt := by intro d n h; omega
  on := by intro p h; simp at h
  inj := by intro d n d' n' h; omega
theorem bij_1 {s : Nat → Nat → Nat} (h : s 0 0 = 0) : Bij 1 s where
  lt := by
    intro d n h1 h2
    have e : d = 0 := by omega
    subst e
    have e : n = 0 := by omega
    subst e
    rw [h]
    decide
  on := by
    intro p hp
    exact ⟨0, 0, by omega, by decide, by rw [h]; omega⟩
  inj := by
    intro d n d' n' h1 h2 h3 h4 _
    have e : d = 0 := by omega
    have e' : d' = 0 := by omega
    subst e e'
    constructor <;> omega
theorem bij_lev (h : Nat) : Bij h (sp .lev h) where
  lt := by
    intro d n hd hn
    rw [sp_lev h d n hn]
    have : 2 ^ (d + 1) ≤ 2 ^ h := Nat.pow_le_pow_right (by omega) hd
    rw [Nat.pow_succ] at this
    omega
  on := by
    intro p hp
    have a : 2 ^ Nat.log2 (p + 1) ≤ p + 1 := Nat.log2_self_le (by omega)
    have b : p + 1 < 2 ^ (Nat.log2 (p + 1) + 1) := Nat.lt_log2_self
    rw [Nat.pow_succ] at b
    refine ⟨Nat.log2 (p + 1), p + 1 - 2 ^ Nat.log2 (p + 1), ?_, by omega, ?_⟩
    · exact (Nat.log2_lt (by omega)).mpr hp
    · rw [sp_lev _ _ _ (by omega)]
      have := p2pos (Nat.log2 (p + 1))
      omega
  inj := by
    intro d n d' n' hd hn hd' hn' e
    rw [sp_lev h d n hn, sp_lev h d' n' hn'] at e
    have p1 := p2pos d
    have p2 := p2pos d'
    rcases Nat.lt_trichotomy d d' with c | c | c
    · have : 2 ^ (d + 1) ≤ 2 ^ d' := Nat.pow_le_pow_right (by omega) c
      rw [Nat.pow_succ] at this
      omega
    · subst c
      exact ⟨rfl, by omega⟩
    · have : 2 ^ (d' + 1) ≤ 2 ^ d := Nat.pow_le_pow_right (by omega) c
      rw [Nat.pow_succ] at this
      omega
theorem pow_split {h t : Nat} (ht : t ≤ h) : 2 ^ h = 2 ^ t * 2 ^ (h - t) := by rw [← Nat.pow_add]; congr 1; omega
theorem bij_kd (k : Kd) : ∀ h, Bij h (sp k h) := by
  intro h
  induction h using Nat.strongRecOn with
  | ind h ih =>
  by_cases h0 : h = 0
  · subst h0; exact bij_0 _
  by_cases hc : isCut k = true
  · by_cases h1 : h = 1
    · subst h1
      exact bij_1 (by unfold sp; rw [num_1 hc (by omega)]; rfl)
    · obtain ⟨t1, t2⟩ := topOf_b k h (by omega)
      have q1 := p2pos (topOf k h)
      have q2 := p2pos (h - topOf k h)
      have q3 := pow_split (t := topOf k h) (h := h) (by omega)
      refine bij_cut (h := h) (t := topOf k h) (s1 := sp k (topOf k h)) (s2 := sp k (h - topOf k h)) (f := fun q => q) (g := fun j => 2 ^ topOf k h - 1 + j * (2 ^ (h - topOf k h) - 1)) t2 (ih _ t2) (ih _ (by omega)) ?_ ?_ ?_ ?_ ?_ ?_ ?_ ?_
      · intro d n hd hn
        exact sp_cut_t hc n (by omega) hd
      · intro d n hd _ hn
        exact sp_cut_b hc n (by omega) hd hn
      all_goals
        generalize topOf k h = t at *
        generalize 2 ^ t = T at *
        generalize 2 ^ (h - t) = N at *
        generalize 2 ^ h = H at *
      · intro q hq
        have : T * 1 ≤ T * N := Nat.mul_le_mul_left _ q2
        try dsimp only
        omega
      · intro j r hj hr
        try dsimp only
        obtain ⟨M, rfl⟩ : ∃ M, N = M + 1 := ⟨N - 1, by omega⟩
        rw [Nat.mul_add, Nat.mul_one] at q3
        have : (j + 1) * M ≤ T * M := Nat.mul_le_mul_right _ hj
        rw [Nat.add_mul, Nat.one_mul] at this
        rw [show M + 1 - 1 = M by omega]
        omega
      · intro q q' _ _ e; exact e
      · intro q j r hq _ _
        try dsimp only
        generalize j * (N - 1) = z
        omega
      · intro j r j' r' hj hr hj' hr' e
        try dsimp only at e
        have e : (N - 1) * j + r = (N - 1) * j' + r' := by rw [Nat.mul_comm (N - 1) j, Nat.mul_comm (N - 1) j']; omega
        have a1 : ((N - 1) * j + r) / (N - 1) = j := by rw [Nat.mul_add_div (by omega), Nat.div_eq_of_lt (by omega), Nat.add_zero]
        have a2 : ((N - 1) * j' + r') / (N - 1) = j' := by rw [Nat.mul_add_div (by omega), Nat.div_eq_of_lt (by omega), Nat.add_zero]
        rw [e, a2] at a1
        subst a1
        exact ⟨rfl, by omega⟩
      · intro p hp
        by_cases c : p + 1 < T
        · exact .inl ⟨p, c, rfl⟩
        · refine .inr ⟨(p + 1 - T) / (N - 1), (p + 1 - T) % (N - 1), ?_, ?_, ?_⟩
          · have hN : 1 < N := by
              refine Nat.lt_of_not_le fun z => ?_
              have : N = 1 := by omega
              subst this
              rw [Nat.mul_one] at q3
              omega
            rw [Nat.div_lt_iff_lt_mul (by omega)]
            obtain ⟨M, rfl⟩ : ∃ M, N = M + 1 := ⟨N - 1, by omega⟩
            rw [Nat.mul_add, Nat.mul_one] at q3
            rw [show M + 1 - 1 = M by omega]
            omega
          · have hN : 1 < N := by
              refine Nat.lt_of_not_le fun z => ?_
              have : N = 1 := by omega
              subst this
              rw [Nat.mul_one] at q3
              omega
            have := Nat.mod_lt (p + 1 - T) (show 0 < N - 1 by omega)
            omega
          · have := Nat.div_add_mod (p + 1 - T) (N - 1)
            rw [Nat.mul_comm] at this
            try dsimp only
            omega
  · have hp : 2 ^ h = 2 ^ (h - 1) * 2 := p2s (by omega)
    have q1 := p2pos (h - 1)
    have top1 : ∀ {d n : Nat}, d < 1 → n < 2 ^ d → d = 0 ∧ n = 0 := by
      intro d n hd hn
      have : d = 0 := by omega
      subst this
      exact ⟨rfl, by omega⟩
    have b1 : Bij 1 (sp .pre 1) := bij_1 rfl
    have z1 : sp .pre 1 0 0 = 0 := rfl
    cases k with
    | lev => exact bij_lev h
    | pre =>
      by_cases h1 : h = 1
      · subst h1; exact bij_1 rfl
      refine bij_cut (h := h) (t := 1) (s1 := sp .pre 1) (s2 := sp .pre (h - 1)) (f := fun q => 0) (g := fun j => 1 + j * (2 ^ (h - 1) - 1)) (by omega) b1 (ih _ (by omega)) ?_ ?_ ?_ ?_ ?_ ?_ ?_ ?_
      · intro d n hd hn
        obtain ⟨rfl, rfl⟩ := top1 hd hn
        rfl
      · intro d n hd _ hn
        exact sp_pre h d n hd hn
      all_goals
        try dsimp only
        generalize 2 ^ (h - 1) = N at *
        generalize 2 ^ h = H at *
      · intro q _; omega
      · intro j r hj hr
        have : j = 0 ∨ j = 1 := by omega
        rcases this with rfl | rfl <;> omega
      · intro q q' _ _ _; omega
      · intro q j r _ _ _
        generalize j * (N - 1) = z
        omega
      · intro j r j' r' hj hr hj' hr' e
        have : j = 0 ∨ j = 1 := by omega
        have : j' = 0 ∨ j' = 1 := by omega
        rcases ‹j = 0 ∨ j = 1› with rfl | rfl <;> rcases ‹j' = 0 ∨ j' = 1› with rfl | rfl <;> omega
      · intro p hp
        by_cases c : p = 0
        · exact .inl ⟨0, by omega, c.symm⟩
        · by_cases c2 : p < N
          · exact .inr ⟨0, p - 1, by omega, by omega, by omega⟩
          · exact .inr ⟨1, p - N, by omega, by omega, by omega⟩
    | ino =>
      by_cases h1 : h = 1
      · subst h1; exact bij_1 rfl
      refine bij_cut (h := h) (t := 1) (s1 := sp .pre 1) (s2 := sp .ino (h - 1)) (f := fun q => 2 ^ (h - 1) - 1) (g := fun j => j * 2 ^ (h - 1)) (by omega) b1 (ih _ (by omega)) ?_ ?_ ?_ ?_ ?_ ?_ ?_ ?_
      · intro d n hd hn
        obtain ⟨rfl, rfl⟩ := top1 hd hn
        rfl
      · intro d n hd _ hn
        exact sp_ino h d n hd hn
      all_goals
        try dsimp only
        generalize 2 ^ (h - 1) = N at *
        generalize 2 ^ h = H at *
      · intro q _; omega
      · intro j r hj hr
        have : j = 0 ∨ j = 1 := by omega
        rcases this with rfl | rfl <;> omega
      · intro q q' _ _ _; omega
      · intro q j r _ hj _
        have : j = 0 ∨ j = 1 := by omega
        rcases this with rfl | rfl <;> omega
      · intro j r j' r' hj hr hj' hr' e
        have : j = 0 ∨ j = 1 := by omega
        have : j' = 0 ∨ j' = 1 := by omega
        rcases ‹j = 0 ∨ j = 1› with rfl | rfl <;> rcases ‹j' = 0 ∨ j' = 1› with rfl | rfl <;> omega
      · intro p hp
        by_cases c : p = N - 1
        · exact .inl ⟨0, by omega, c.symm⟩
        · by_cases c2 : p < N
          · exact .inr ⟨0, p, by omega, by omega, by omega⟩
          · exact .inr ⟨1, p - N, by omega, by omega, by omega⟩
    | post =>
      by_cases h1 : h = 1
      · subst h1; exact bij_1 rfl
      refine bij_cut (h := h) (t := 1) (s1 := sp .pre 1) (s2 := sp .post (h - 1)) (f := fun q => 2 ^ h - 2) (g := fun j => j * (2 ^ (h - 1) - 1)) (by omega) b1 (ih _ (by omega)) ?_ ?_ ?_ ?_ ?_ ?_ ?_ ?_
      · intro d n hd hn
        obtain ⟨rfl, rfl⟩ := top1 hd hn
        rfl
      · intro d n hd _ hn
        exact sp_post h d n hd hn
      all_goals
        try dsimp only
        generalize 2 ^ (h - 1) = N at *
        generalize 2 ^ h = H at *
      · intro q _; omega
      · intro j r hj hr
        have : j = 0 ∨ j = 1 := by omega
        rcases this with rfl | rfl <;> omega
      · intro q q' _ _ _; omega
      · intro q j r _ hj _
        have : j = 0 ∨ j = 1 := by omega
        rcases this with rfl | rfl <;> omega
      · intro j r j' r' hj hr hj' hr' e
        have : j = 0 ∨ j = 1 := by omega
        have : j' = 0 ∨ j' = 1 := by omega
        rcases ‹j = 0 ∨ j = 1› with rfl | rfl <;> rcases ‹j' = 0 ∨ j' = 1› with rfl | rfl <;> omega
      · intro p hp
        by_cases c : p = H - 2
        · exact .inl ⟨0, by omega, c.symm⟩
        · by_cases c2 : p < N - 1
          · exact .inr ⟨0, p, by omega, by omega, by omega⟩
          · exact .inr ⟨1, p - (N - 1), by omega, by omega, by omega⟩
    | les => exact absurd rfl hc
    | gre => exact absurd rfl hc
    | pow => exact absurd rfl hc
theorem fall_kd (k : Kd) : ∀ h d, d < h → ∃ B, Fall d (ws k h d) B ∧ B 0 + 1 ≤ 2 ^ h := by
  intro h
  induction h using Nat.strongRecOn with
  | ind h ih =>
  intro d hd
  by_cases hc : isCut k = true
  · by_cases h1 : h = 1
    · subst h1
      have : d = 0 := by omega
      subst this
      exact ⟨fun _ => 1, ⟨Nat.le_refl _, fun i hi => absurd hi (by omega)⟩, by decide⟩
    · obtain ⟨t1, t2⟩ := topOf_b k h (by omega)
      by_cases c : d < topOf k h
      · obtain ⟨B, f, b⟩ := ih _ t2 d c
        refine ⟨B, ⟨f.1, fun i hi => ?_⟩, ?_⟩
        · rw [ws_t hc (by omega) c]
          exact f.2 i hi
        · have : 2 ^ topOf k h ≤ 2 ^ h := Nat.pow_le_pow_right (by omega) (by omega)
          omega
      · obtain ⟨B, f, b⟩ := ih (h - topOf k h) (by omega) (d - topOf k h) (by omega)
        refine ⟨fun i => if i < topOf k h then (2 ^ (h - topOf k h) - 1) * 2 ^ (topOf k h - i) else B (i - topOf k h), ⟨?_, fun i hi => ?_⟩, ?_⟩
        · try dsimp only
          rw [if_neg c]
          exact f.1
        · try dsimp only
          by_cases c2 : i < topOf k h
          · rw [ws_b1 hc (by omega) (by omega) c2, if_pos c2, show topOf k h - i = topOf k h - 1 - i + 1 by omega, Nat.pow_succ, ← Nat.mul_assoc]
            by_cases c3 : i + 1 < topOf k h
            · rw [if_pos c3, show topOf k h - (i + 1) = topOf k h - 1 - i by omega]
              omega
            · rw [if_neg c3, show i + 1 - topOf k h = 0 by omega, show topOf k h - 1 - i = 0 by omega, Nat.pow_zero]
              omega
          · rw [if_neg c2, if_neg (by omega), ws_b2 hc (by omega) (by omega) (by omega), show i + 1 - topOf k h = i - topOf k h + 1 by omega]
            exact f.2 _ (by omega)
        · try dsimp only
          rw [if_pos (by omega), Nat.sub_zero, Nat.mul_comm]
          have q3 := pow_split (t := topOf k h) (h := h) (by omega)
          have q1 := p2pos (topOf k h)
          have q2 := p2pos (h - topOf k h)
          rw [q3]
          generalize 2 ^ topOf k h = T at *
          generalize 2 ^ (h - topOf k h) = N at *
          obtain ⟨M, rfl⟩ : ∃ M, N = M + 1 := ⟨N - 1, by omega⟩
          rw [Nat.mul_add, Nat.mul_one, show M + 1 - 1 = M by omega]
          omega
  · have e : ∀ i, i < d → 2 ^ (h - i) = 2 ^ (h - 1 - i) * 2 ∧ h - (i + 1) = h - 1 - i := fun i hi => ⟨p2s (by omega), by omega⟩
    cases k with
    | lev =>
      refine ⟨fun i => 2 ^ (d - i), ⟨?_, fun i hi => ?_⟩, ?_⟩
      · try dsimp only
        rw [Nat.sub_self]; exact Nat.le_refl _
      · show 2 ^ (d - (i + 1)) ≤ 2 ^ (d - 1 - i) ∧ 2 ^ (d - 1 - i) + 2 ^ (d - (i + 1)) ≤ 2 ^ (d - i)
        rw [show d - (i + 1) = d - 1 - i by omega, show d - i = d - 1 - i + 1 by omega, Nat.pow_succ]
        omega
      · try dsimp only
        rw [Nat.sub_zero]
        have : 2 ^ d < 2 ^ h := Nat.pow_lt_pow_right (by omega) hd
        omega
    | ino =>
      have p1 : 2 ^ 1 ≤ 2 ^ (h - d) := Nat.pow_le_pow_right (by omega) (by omega)
      refine ⟨fun i => 2 ^ (h - i) - 2 ^ (h - d) + 1, ⟨?_, fun i hi => ?_⟩, ?_⟩
      · try dsimp only
        omega
      · obtain ⟨e1, e2⟩ := e i hi
        have p2 : 2 ^ (h - d) ≤ 2 ^ (h - 1 - i) := Nat.pow_le_pow_right (by omega) (by omega)
        show 2 ^ (h - (i + 1)) - 2 ^ (h - d) + 1 ≤ 2 ^ (h - 1 - i) ∧ 2 ^ (h - 1 - i) + (2 ^ (h - (i + 1)) - 2 ^ (h - d) + 1) ≤ 2 ^ (h - i) - 2 ^ (h - d) + 1
        rw [e1, e2]
        omega
      · try dsimp only
        rw [Nat.sub_zero]
        have p3 : 2 ^ (h - d) ≤ 2 ^ h := Nat.pow_le_pow_right (by omega) (by omega)
        omega
    | pre =>
      refine ⟨fun i => 2 ^ (h - i) - 1, ⟨?_, fun i hi => ?_⟩, ?_⟩
      · try dsimp only
        have : 2 ^ 1 ≤ 2 ^ (h - d) := Nat.pow_le_pow_right (by omega) (by omega)
        omega
      · obtain ⟨e1, e2⟩ := e i hi
        show 2 ^ (h - (i + 1)) - 1 ≤ 2 ^ (h - 1 - i) - 1 ∧ 2 ^ (h - 1 - i) - 1 + (2 ^ (h - (i + 1)) - 1) ≤ 2 ^ (h - i) - 1
        rw [e1, e2]
        omega
      · try dsimp only
        rw [Nat.sub_zero]
        have := p2pos h
        omega
    | post =>
      refine ⟨fun i => 2 ^ (h - i) - 1, ⟨?_, fun i hi => ?_⟩, ?_⟩
      · try dsimp only
        have : 2 ^ 1 ≤ 2 ^ (h - d) := Nat.pow_le_pow_right (by omega) (by omega)
        omega
      · obtain ⟨e1, e2⟩ := e i hi
        show 2 ^ (h - (i + 1)) - 1 ≤ 2 ^ (h - 1 - i) - 1 ∧ 2 ^ (h - 1 - i) - 1 + (2 ^ (h - (i + 1)) - 1) ≤ 2 ^ (h - i) - 1
        rw [e1, e2]
        omega
      · try dsimp only
        rw [Nat.sub_zero]
        have := p2pos h
        omega
    | les => exact absurd rfl hc
    | gre => exact absurd rfl hc
    | pow => exact absurd rfl hc
end SM

namespace SM
open PySem PySem.Spec DL
open PyProof.Rows hiding St
def kn : Kd → Str
  | .lev => z_levels
  | .ino => z_inorder
  | .pre => z_preorder
  | .post => z_postorder
  | .les => z_lesser
  | .gre => z_greater
  | .pow => z_powers
theorem cutIn (k : Kd) : dNotIn (.str (kn k)) (.tuple [.str z_lesser, .str z_greater, .str z_powers]) = some (.bool (!isCut k), false) := by cases k <;> exact id rfl
theorem zz1 : (z_inorder = z_levels) = False := by simp [z_inorder, z_levels]
theorem zz2 : (z_preorder = z_levels) = False := by simp [z_preorder, z_levels]
theorem zz3 : (z_preorder = z_inorder) = False := by simp [z_preorder, z_inorder]
theorem zz4 : (z_postorder = z_levels) = False := by simp [z_postorder, z_levels]
theorem zz5 : (z_postorder = z_inorder) = False := by simp [z_postorder, z_inorder]
theorem zz6 : (z_postorder = z_preorder) = False := by simp [z_postorder, z_preorder]
theorem zz7 : (z_greater = z_lesser) = False := by simp [z_greater, z_lesser]
theorem zz8 : (z_powers = z_lesser) = False := by simp [z_powers, z_lesser]
theorem zz9 : (z_powers = z_greater) = False := by simp [z_powers, z_greater]
/-- the weights of a kind as numbers -/
def wz (k : Kd) (h d : Nat) : Nat → Int := fun i => (ws k h d i : Int)
theorem pw1 (d : Nat) : ((2 ^ d - 1 : Nat) : Int) = 2 ^ d - 1 := by have := p2pos d; have := pw d; omega
theorem pw2 (d : Nat) (hd : 1 ≤ d) : ((2 ^ d - 2 : Nat) : Int) = 2 ^ d - 2 := by
  have : 2 ^ 1 ≤ 2 ^ d := Nat.pow_le_pow_right (by omega) hd
  have := pw d
  omega
/-- a list of a weight for each step -/
theorem lc_steps (d : Nat) (w : Nat → Int) (ge : Sl → EV) (δ : Sl) (l : Nat) (h : ∀ i, i < d → ∃ δ1 fr, gtName [] l (.int (1 + (i : Int))) false δ = some δ1 ∧ ge δ1 = .ok (.int (w i), fr) δ1 ∧ wipeD δ1 [l] = δ) :
    lcD [l] (gtName [] l) gYes ge (rgD 1 ((d : Int) + 1)) [] δ = .ok (wsD d w) δ := by
  have e0 : rgD 1 ((d : Int) + 1) = (List.range d).map (fun i : Nat => PyData.int (1 + (i : Int))) := by
    simp only [rgD]
    rw [show ((d : Int) + 1 - 1).toNat = d by omega]
  rw [lcD_map (fun x => match x with | .int k => .int (w (k - 1).toNat) | _ => .none) []]
  · rw [List.nil_append, e0, List.map_map]
    congr 1
    unfold wsD
    refine List.map_congr_left fun i hi => ?_
    simp only [Function.comp]
    rw [show (1 + (i : Int) - 1).toNat = i by omega]
  · intro x hx
    rw [e0] at hx
    simp only [List.mem_map, List.mem_range] at hx
    obtain ⟨i, hi, rfl⟩ := hx
    obtain ⟨δ1, fr, h1, h2, h3⟩ := h i hi
    refine ⟨δ1, δ1, δ1, fr, h1, rfl, ?_, h3⟩
    dsimp only
    rw [show (1 + (i : Int) - 1).toNat = i by omega]
    exact h2
theorem lc_stepsN (d : Nat) (w : Nat → Int) (ge : Sl → EV) (δ : Sl) (l : Nat) (h : ∀ i, i < d → ∃ δ1 fr, gtName [] l (.int (1 + (i : Int))) false δ = some δ1 ∧ ge δ1 = .ok (.int (w i), fr) δ1 ∧ wipeD δ1 [l] = δ) :
    lcD [l] (gtName [] l) gYes ge (rgN 1 d) [] δ = .ok (wsD d w) δ := by
  have e0 : rgD 1 ((d : Int) + 1) = rgN 1 d := by
    simp only [rgD, rgN]
    rw [show ((d : Int) + 1 - 1).toNat = d by omega]
  rw [← e0]
  exact lc_steps d w ge δ l h
theorem plain_k (k : Kd) (hc : isCut k = false) (h d : Nat) (hd : d < h) (hh : h ≤ 100) :
    m_plain_sums [.str (kn k), .int h, .int d] = .ok (.tuple [.int (num k h d : Nat), .list (wsD d (wz k h d))], true) [] := by
  have e2 : rgOk 1 ((d : Int) + 1) = true := rg_ok _ _ (by omega) (by omega) (by omega) (by omega)
  have e4 : (rgD 1 ((d : Int) + 1)).length = d := by simp [rgD]
  have l1 : d ≤ LINE := by show d ≤ 16777216; omega
  have l2 : 2 ≤ LINE := by show 2 ≤ 16777216; omega
  have sh : ∀ (a b : Nat) (j : Int), j = ((a - b : Nat) : Int) → a ≤ 1000 → dShl (.int 1) (.int j) = some (.int (2 ^ (a - b)), false) := by
    intro a b j hj ha
    rw [hj]
    exact shl1 _ (by omega)
  cases k with
  | lev =>
    have e1 := shl1 d (by omega)
    have e3 := lc_steps d (wz .lev h d) ce_plain_sums_4 [some (false, .str z_levels), some (false, .int h), some (false, .int d), some (false, .list (rgD 1 ((d : Int) + 1))), none] 4 (by
      intro i hi
      have e5 := sh (d - 1) i ((d : Int) - (1 + (i : Int))) (by omega) (by omega)
      have e6 : wz .lev h d i = 2 ^ (d - 1 - i) := pw _
      refine ⟨_, false, by simp [e_tUnl, e_ext, e_ext0, e_ext1, e_ext2, e_dix, e_dix1, e_dix2, e_look, e_rev, e_rev1, e_lr1, e_lr11, e_isE1, e_isE2, e_isE3, e_isE4, e_isE5, e_isE6, e_try, e_try1, e_try2, e_eqAS, e_neAS, e_eqAI, e_neAI, e_bind_ok, e_bind_exc, e_bind_stk, e_var, e_var1, e_var2, e_move, e_move1, e_move2, e_C, e_fin1, e_bin, e_bin1, e_bin2, e_chain, e_chain1, e_chain2, e_chain3, e_chain4, e_chain5, e_if, e_if1, e_if2, e_tv, e_tv1, e_notT, e_notT1, e_andT, e_andT1, e_andT2, e_orT, e_orT1, e_orT2, e_andV, e_andV1, e_andV2, e_orV, e_orV1, e_orV2, e_notV, e_notV1, e_aNil, e_aCons, e_aCons1, e_aCons2, e_star, e_star1, e_star2, e_star3, e_lst, e_lst1, e_tup, e_tup1, e_call, e_call1, e_slot, e_slot1, e_sb, e_sb0, e_sb1, e_sb2, e_sb3, e_bs, e_bs1, e_bs2, e_lenV, e_lenV1, e_un, e_un1, e_def, e_def1, e_def2, e_def3, e_fix0, e_fix1, e_fix2, e_def4, e_def0, e_def01, e_jNil, e_jVal, e_jVal1, e_j2, e_jIo, e_jIo1, e_itD0, e_itD1, e_itD2, e_itD3, e_itJ0, e_itJ1, e_itJ2, e_itP0, e_itP1, e_itP2, e_setMany0, e_setMany1, e_nodup0, e_nodup1, e_noPart, e_part, e_part1, e_slice, e_slice1, e_slice2, e_slice3, e_lstRg, e_lstRg1, e_lstRg2, e_iSeq, e_iSeq1, e_iSeq2, e_iEn, e_iEn1, e_iEn2, e_iR1, e_iR11, e_iR2, e_iR21, e_yes, e_lc, e_lc1, e_lc2, e_wipe0, e_wipe1, e_back0, e_back1, e_back2, e_noneOwn0, e_noneOwn1, e_noneOwn2, e_noneOwn3, e_noneOwn4, e_name, e_set, e_tNil, e_tCons, e_tCons1, e_tTup, e_seq, e_seq1, e_seq2, e_seq3, e_seq4, e_seq5, e_next, e_break, e_cont, e_expr, e_expr1, e_ret, e_ret1, e_sIf, e_sIf1, e_sIf2, e_asg, e_asg1, e_asg2, e_aug, e_aug0, e_aug1, e_aug2, e_aug3, e_par, e_par1, e_par2, e_app, e_app0, e_app1, e_app2, e_setIx, e_setIx0, e_setIx1, e_setIx2, e_setIx3, e_setIx4, e_match, e_match1, e_mCase, e_mAny, e_raise, e_for, e_body, e_body1, e_body2, e_body3, e_body4, e_body5, e_outs0, e_outs1, e_outs2, e_start0, e_start1, e_addI, e_addL, e_addI2, e_sub, e_cmp, e_eqI, e_neI, e_eqB, e_isN0, e_isN1, e_isN2, e_isN3, e_notN0, e_notN1, e_notN2, e_notN3, e_int, e_intB, e_max, e_min, e_neg, e_bits, e_lenL, e_lenT, e_lenS, e_ixL, e_ixT, e_ixS, e_at0, e_at1, e_at2, e_map, e_lstOf, e_lstOfS, e_seqOf, e_seqOfT, e_seqOfS, e_isiIB, e_isiII, e_isiTT, e_isiLL]; rfl, by simp [ce_plain_sums_4, e_tUnl, e_ext, e_ext0, e_ext1, e_ext2, e_dix, e_dix1, e_dix2, e_look, e_rev, e_rev1, e_lr1, e_lr11, e_isE1, e_isE2, e_isE3, e_isE4, e_isE5, e_isE6, e_try, e_try1, e_try2, e_eqAS, e_neAS, e_eqAI, e_neAI, e_bind_ok, e_bind_exc, e_bind_stk, e_var, e_var1, e_var2, e_move, e_move1, e_move2, e_C, e_fin1, e_bin, e_bin1, e_bin2, e_chain, e_chain1, e_chain2, e_chain3, e_chain4, e_chain5, e_if, e_if1, e_if2, e_tv, e_tv1, e_notT, e_notT1, e_andT, e_andT1, e_andT2, e_orT, e_orT1, e_orT2, e_andV, e_andV1, e_andV2, e_orV, e_orV1, e_orV2, e_notV, e_notV1, e_aNil, e_aCons, e_aCons1, e_aCons2, e_star, e_star1, e_star2, e_star3, e_lst, e_lst1, e_tup, e_tup1, e_call, e_call1, e_slot, e_slot1, e_sb, e_sb0, e_sb1, e_sb2, e_sb3, e_bs, e_bs1, e_bs2, e_lenV, e_lenV1, e_un, e_un1, e_def, e_def1, e_def2, e_def3, e_fix0, e_fix1, e_fix2, e_def4, e_def0, e_def01, e_jNil, e_jVal, e_jVal1, e_j2, e_jIo, e_jIo1, e_itD0, e_itD1, e_itD2, e_itD3, e_itJ0, e_itJ1, e_itJ2, e_itP0, e_itP1, e_itP2, e_setMany0, e_setMany1, e_nodup0, e_nodup1, e_noPart, e_part, e_part1, e_slice, e_slice1, e_slice2, e_slice3, e_lstRg, e_lstRg1, e_lstRg2, e_iSeq, e_iSeq1, e_iSeq2, e_iEn, e_iEn1, e_iEn2, e_iR1, e_iR11, e_iR2, e_iR21, e_yes, e_lc, e_lc1, e_lc2, e_wipe0, e_wipe1, e_back0, e_back1, e_back2, e_noneOwn0, e_noneOwn1, e_noneOwn2, e_noneOwn3, e_noneOwn4, e_name, e_set, e_tNil, e_tCons, e_tCons1, e_tTup, e_seq, e_seq1, e_seq2, e_seq3, e_seq4, e_seq5, e_next, e_break, e_cont, e_expr, e_expr1, e_ret, e_ret1, e_sIf, e_sIf1, e_sIf2, e_asg, e_asg1, e_asg2, e_aug, e_aug0, e_aug1, e_aug2, e_aug3, e_par, e_par1, e_par2, e_app, e_app0, e_app1, e_app2, e_setIx, e_setIx0, e_setIx1, e_setIx2, e_setIx3, e_setIx4, e_match, e_match1, e_mCase, e_mAny, e_raise, e_for, e_body, e_body1, e_body2, e_body3, e_body4, e_body5, e_outs0, e_outs1, e_outs2, e_start0, e_start1, e_addI, e_addL, e_addI2, e_sub, e_cmp, e_eqI, e_neI, e_eqB, e_isN0, e_isN1, e_isN2, e_isN3, e_notN0, e_notN1, e_notN2, e_notN3, e_int, e_intB, e_max, e_min, e_neg, e_bits, e_lenL, e_lenT, e_lenS, e_ixL, e_ixT, e_ixS, e_at0, e_at1, e_at2, e_map, e_lstOf, e_lstOfS, e_seqOf, e_seqOfT, e_seqOfS, e_isiIB, e_isiII, e_isiTT, e_isiLL, e5, e6], by simp [e_tUnl, e_ext, e_ext0, e_ext1, e_ext2, e_dix, e_dix1, e_dix2, e_look, e_rev, e_rev1, e_lr1, e_lr11, e_isE1, e_isE2, e_isE3, e_isE4, e_isE5, e_isE6, e_try, e_try1, e_try2, e_eqAS, e_neAS, e_eqAI, e_neAI, e_bind_ok, e_bind_exc, e_bind_stk, e_var, e_var1, e_var2, e_move, e_move1, e_move2, e_C, e_fin1, e_bin, e_bin1, e_bin2, e_chain, e_chain1, e_chain2, e_chain3, e_chain4, e_chain5, e_if, e_if1, e_if2, e_tv, e_tv1, e_notT, e_notT1, e_andT, e_andT1, e_andT2, e_orT, e_orT1, e_orT2, e_andV, e_andV1, e_andV2, e_orV, e_orV1, e_orV2, e_notV, e_notV1, e_aNil, e_aCons, e_aCons1, e_aCons2, e_star, e_star1, e_star2, e_star3, e_lst, e_lst1, e_tup, e_tup1, e_call, e_call1, e_slot, e_slot1, e_sb, e_sb0, e_sb1, e_sb2, e_sb3, e_bs, e_bs1, e_bs2, e_lenV, e_lenV1, e_un, e_un1, e_def, e_def1, e_def2, e_def3, e_fix0, e_fix1, e_fix2, e_def4, e_def0, e_def01, e_jNil, e_jVal, e_jVal1, e_j2, e_jIo, e_jIo1, e_itD0, e_itD1, e_itD2, e_itD3, e_itJ0, e_itJ1, e_itJ2, e_itP0, e_itP1, e_itP2, e_setMany0, e_setMany1, e_nodup0, e_nodup1, e_noPart, e_part, e_part1, e_slice, e_slice1, e_slice2, e_slice3, e_lstRg, e_lstRg1, e_lstRg2, e_iSeq, e_iSeq1, e_iSeq2, e_iEn, e_iEn1, e_iEn2, e_iR1, e_iR11, e_iR2, e_iR21, e_yes, e_lc, e_lc1, e_lc2, e_wipe0, e_wipe1, e_back0, e_back1, e_back2, e_noneOwn0, e_noneOwn1, e_noneOwn2, e_noneOwn3, e_noneOwn4, e_name, e_set, e_tNil, e_tCons, e_tCons1, e_tTup, e_seq, e_seq1, e_seq2, e_seq3, e_seq4, e_seq5, e_next, e_break, e_cont, e_expr, e_expr1, e_ret, e_ret1, e_sIf, e_sIf1, e_sIf2, e_asg, e_asg1, e_asg2, e_aug, e_aug0, e_aug1, e_aug2, e_aug3, e_par, e_par1, e_par2, e_app, e_app0, e_app1, e_app2, e_setIx, e_setIx0, e_setIx1, e_setIx2, e_setIx3, e_setIx4, e_match, e_match1, e_mCase, e_mAny, e_raise, e_for, e_body, e_body1, e_body2, e_body3, e_body4, e_body5, e_outs0, e_outs1, e_outs2, e_start0, e_start1, e_addI, e_addL, e_addI2, e_sub, e_cmp, e_eqI, e_neI, e_eqB, e_isN0, e_isN1, e_isN2, e_isN3, e_notN0, e_notN1, e_notN2, e_notN3, e_int, e_intB, e_max, e_min, e_neg, e_bits, e_lenL, e_lenT, e_lenS, e_ixL, e_ixT, e_ixS, e_at0, e_at1, e_at2, e_map, e_lstOf, e_lstOfS, e_seqOf, e_seqOfT, e_seqOfS, e_isiIB, e_isiII, e_isiTT, e_isiLL]⟩)
    have e7 : ((num .lev h d : Nat) : Int) = 2 ^ d - 1 := pw1 d
    simp [m_plain_sums, b_plain_sums, e_retT, e_retT1, e_retT2, kn, e_tUnl, e_ext, e_ext0, e_ext1, e_ext2, e_dix, e_dix1, e_dix2, e_look, e_rev, e_rev1, e_lr1, e_lr11, e_isE1, e_isE2, e_isE3, e_isE4, e_isE5, e_isE6, e_try, e_try1, e_try2, e_eqAS, e_neAS, e_eqAI, e_neAI, e_bind_ok, e_bind_exc, e_bind_stk, e_var, e_var1, e_var2, e_move, e_move1, e_move2, e_C, e_fin1, e_bin, e_bin1, e_bin2, e_chain, e_chain1, e_chain2, e_chain3, e_chain4, e_chain5, e_if, e_if1, e_if2, e_tv, e_tv1, e_notT, e_notT1, e_andT, e_andT1, e_andT2, e_orT, e_orT1, e_orT2, e_andV, e_andV1, e_andV2, e_orV, e_orV1, e_orV2, e_notV, e_notV1, e_aNil, e_aCons, e_aCons1, e_aCons2, e_star, e_star1, e_star2, e_star3, e_lst, e_lst1, e_tup, e_tup1, e_call, e_call1, e_slot, e_slot1, e_sb, e_sb0, e_sb1, e_sb2, e_sb3, e_bs, e_bs1, e_bs2, e_lenV, e_lenV1, e_un, e_un1, e_def, e_def1, e_def2, e_def3, e_fix0, e_fix1, e_fix2, e_def4, e_def0, e_def01, e_jNil, e_jVal, e_jVal1, e_j2, e_jIo, e_jIo1, e_itD0, e_itD1, e_itD2, e_itD3, e_itJ0, e_itJ1, e_itJ2, e_itP0, e_itP1, e_itP2, e_setMany0, e_setMany1, e_nodup0, e_nodup1, e_noPart, e_part, e_part1, e_slice, e_slice1, e_slice2, e_slice3, e_lstRg, e_lstRg1, e_lstRg2, e_iSeq, e_iSeq1, e_iSeq2, e_iEn, e_iEn1, e_iEn2, e_iR1, e_iR11, e_iR2, e_iR21, e_yes, e_lc, e_lc1, e_lc2, e_wipe0, e_wipe1, e_back0, e_back1, e_back2, e_noneOwn0, e_noneOwn1, e_noneOwn2, e_noneOwn3, e_noneOwn4, e_name, e_set, e_tNil, e_tCons, e_tCons1, e_tTup, e_seq, e_seq1, e_seq2, e_seq3, e_seq4, e_seq5, e_next, e_break, e_cont, e_expr, e_expr1, e_ret, e_ret1, e_sIf, e_sIf1, e_sIf2, e_asg, e_asg1, e_asg2, e_aug, e_aug0, e_aug1, e_aug2, e_aug3, e_par, e_par1, e_par2, e_app, e_app0, e_app1, e_app2, e_setIx, e_setIx0, e_setIx1, e_setIx2, e_setIx3, e_setIx4, e_match, e_match1, e_mCase, e_mAny, e_raise, e_for, e_body, e_body1, e_body2, e_body3, e_body4, e_body5, e_outs0, e_outs1, e_outs2, e_start0, e_start1, e_addI, e_addL, e_addI2, e_sub, e_cmp, e_eqI, e_neI, e_eqB, e_isN0, e_isN1, e_isN2, e_isN3, e_notN0, e_notN1, e_notN2, e_notN3, e_int, e_intB, e_max, e_min, e_neg, e_bits, e_lenL, e_lenT, e_lenS, e_ixL, e_ixT, e_ixS, e_at0, e_at1, e_at2, e_map, e_lstOf, e_lstOfS, e_seqOf, e_seqOfT, e_seqOfS, e_isiIB, e_isiII, e_isiTT, e_isiLL, e1, e2, e3, e4, e7, l1, l2]
  | ino =>
    have e1 := sh (h - 1) d ((h : Int) - 1 - d) (by omega) (by omega)
    have e3 := lc_steps d (wz .ino h d) ce_plain_sums_3 [some (false, .str z_inorder), some (false, .int h), some (false, .int d), some (false, .list (rgD 1 ((d : Int) + 1))), none] 4 (by
      intro i hi
      have e5 := sh (h - 1) i ((h : Int) - (1 + (i : Int))) (by omega) (by omega)
      have e6 : wz .ino h d i = 2 ^ (h - 1 - i) := pw _
      refine ⟨_, false, by simp [e_tUnl, e_ext, e_ext0, e_ext1, e_ext2, e_dix, e_dix1, e_dix2, e_look, e_rev, e_rev1, e_lr1, e_lr11, e_isE1, e_isE2, e_isE3, e_isE4, e_isE5, e_isE6, e_try, e_try1, e_try2, e_eqAS, e_neAS, e_eqAI, e_neAI, e_bind_ok, e_bind_exc, e_bind_stk, e_var, e_var1, e_var2, e_move, e_move1, e_move2, e_C, e_fin1, e_bin, e_bin1, e_bin2, e_chain, e_chain1, e_chain2, e_chain3, e_chain4, e_chain5, e_if, e_if1, e_if2, e_tv, e_tv1, e_notT, e_notT1, e_andT, e_andT1, e_andT2, e_orT, e_orT1, e_orT2, e_andV, e_andV1, e_andV2, e_orV, e_orV1, e_orV2, e_notV, e_notV1, e_aNil, e_aCons, e_aCons1, e_aCons2, e_star, e_star1, e_star2, e_star3, e_lst, e_lst1, e_tup, e_tup1, e_call, e_call1, e_slot, e_slot1, e_sb, e_sb0, e_sb1, e_sb2, e_sb3, e_bs, e_bs1, e_bs2, e_lenV, e_lenV1, e_un, e_un1, e_def, e_def1, e_def2, e_def3, e_fix0, e_fix1, e_fix2, e_def4, e_def0, e_def01, e_jNil, e_jVal, e_jVal1, e_j2, e_jIo, e_jIo1, e_itD0, e_itD1, e_itD2, e_itD3, e_itJ0, e_itJ1, e_itJ2, e_itP0, e_itP1, e_itP2, e_setMany0, e_setMany1, e_nodup0, e_nodup1, e_noPart, e_part, e_part1, e_slice, e_slice1, e_slice2, e_slice3, e_lstRg, e_lstRg1, e_lstRg2, e_iSeq, e_iSeq1, e_iSeq2, e_iEn, e_iEn1, e_iEn2, e_iR1, e_iR11, e_iR2, e_iR21, e_yes, e_lc, e_lc1, e_lc2, e_wipe0, e_wipe1, e_back0, e_back1, e_back2, e_noneOwn0, e_noneOwn1, e_noneOwn2, e_noneOwn3, e_noneOwn4, e_name, e_set, e_tNil, e_tCons, e_tCons1, e_tTup, e_seq, e_seq1, e_seq2, e_seq3, e_seq4, e_seq5, e_next, e_break, e_cont, e_expr, e_expr1, e_ret, e_ret1, e_sIf, e_sIf1, e_sIf2, e_asg, e_asg1, e_asg2, e_aug, e_aug0, e_aug1, e_aug2, e_aug3, e_par, e_par1, e_par2, e_app, e_app0, e_app1, e_app2, e_setIx, e_setIx0, e_setIx1, e_setIx2, e_setIx3, e_setIx4, e_match, e_match1, e_mCase, e_mAny, e_raise, e_for, e_body, e_body1, e_body2, e_body3, e_body4, e_body5, e_outs0, e_outs1, e_outs2, e_start0, e_start1, e_addI, e_addL, e_addI2, e_sub, e_cmp, e_eqI, e_neI, e_eqB, e_isN0, e_isN1, e_isN2, e_isN3, e_notN0, e_notN1, e_notN2, e_notN3, e_int, e_intB, e_max, e_min, e_neg, e_bits, e_lenL, e_lenT, e_lenS, e_ixL, e_ixT, e_ixS, e_at0, e_at1, e_at2, e_map, e_lstOf, e_lstOfS, e_seqOf, e_seqOfT, e_seqOfS, e_isiIB, e_isiII, e_isiTT, e_isiLL]; rfl, by simp [ce_plain_sums_3, e_tUnl, e_ext, e_ext0, e_ext1, e_ext2, e_dix, e_dix1, e_dix2, e_look, e_rev, e_rev1, e_lr1, e_lr11, e_isE1, e_isE2, e_isE3, e_isE4, e_isE5, e_isE6, e_try, e_try1, e_try2, e_eqAS, e_neAS, e_eqAI, e_neAI, e_bind_ok, e_bind_exc, e_bind_stk, e_var, e_var1, e_var2, e_move, e_move1, e_move2, e_C, e_fin1, e_bin, e_bin1, e_bin2, e_chain, e_chain1, e_chain2, e_chain3, e_chain4, e_chain5, e_if, e_if1, e_if2, e_tv, e_tv1, e_notT, e_notT1, e_andT, e_andT1, e_andT2, e_orT, e_orT1, e_orT2, e_andV, e_andV1, e_andV2, e_orV, e_orV1, e_orV2, e_notV, e_notV1, e_aNil, e_aCons, e_aCons1, e_aCons2, e_star, e_star1, e_star2, e_star3, e_lst, e_lst1, e_tup, e_tup1, e_call, e_call1, e_slot, e_slot1, e_sb, e_sb0, e_sb1, e_sb2, e_sb3, e_bs, e_bs1, e_bs2, e_lenV, e_lenV1, e_un, e_un1, e_def, e_def1, e_def2, e_def3, e_fix0, e_fix1, e_fix2, e_def4, e_def0, e_def01, e_jNil, e_jVal, e_jVal1, e_j2, e_jIo, e_jIo1, e_itD0, e_itD1, e_itD2, e_itD3, e_itJ0, e_itJ1, e_itJ2, e_itP0, e_itP1, e_itP2, e_setMany0, e_setMany1, e_nodup0, e_nodup1, e_noPart, e_part, e_part1, e_slice, e_slice1, e_slice2, e_slice3, e_lstRg, e_lstRg1, e_lstRg2, e_iSeq, e_iSeq1, e_iSeq2, e_iEn, e_iEn1, e_iEn2, e_iR1, e_iR11, e_iR2, e_iR21, e_yes, e_lc, e_lc1, e_lc2, e_wipe0, e_wipe1, e_back0, e_back1, e_back2, e_noneOwn0, e_noneOwn1, e_noneOwn2, e_noneOwn3, e_noneOwn4, e_name, e_set, e_tNil, e_tCons, e_tCons1, e_tTup, e_seq, e_seq1, e_seq2, e_seq3, e_seq4, e_seq5, e_next, e_break, e_cont, e_expr, e_expr1, e_ret, e_ret1, e_sIf, e_sIf1, e_sIf2, e_asg, e_asg1, e_asg2, e_aug, e_aug0, e_aug1, e_aug2, e_aug3, e_par, e_par1, e_par2, e_app, e_app0, e_app1, e_app2, e_setIx, e_setIx0, e_setIx1, e_setIx2, e_setIx3, e_setIx4, e_match, e_match1, e_mCase, e_mAny, e_raise, e_for, e_body, e_body1, e_body2, e_body3, e_body4, e_body5, e_outs0, e_outs1, e_outs2, e_start0, e_start1, e_addI, e_addL, e_addI2, e_sub, e_cmp, e_eqI, e_neI, e_eqB, e_isN0, e_isN1, e_isN2, e_isN3, e_notN0, e_notN1, e_notN2, e_notN3, e_int, e_intB, e_max, e_min, e_neg, e_bits, e_lenL, e_lenT, e_lenS, e_ixL, e_ixT, e_ixS, e_at0, e_at1, e_at2, e_map, e_lstOf, e_lstOfS, e_seqOf, e_seqOfT, e_seqOfS, e_isiIB, e_isiII, e_isiTT, e_isiLL, e5, e6], by simp [e_tUnl, e_ext, e_ext0, e_ext1, e_ext2, e_dix, e_dix1, e_dix2, e_look, e_rev, e_rev1, e_lr1, e_lr11, e_isE1, e_isE2, e_isE3, e_isE4, e_isE5, e_isE6, e_try, e_try1, e_try2, e_eqAS, e_neAS, e_eqAI, e_neAI, e_bind_ok, e_bind_exc, e_bind_stk, e_var, e_var1, e_var2, e_move, e_move1, e_move2, e_C, e_fin1, e_bin, e_bin1, e_bin2, e_chain, e_chain1, e_chain2, e_chain3, e_chain4, e_chain5, e_if, e_if1, e_if2, e_tv, e_tv1, e_notT, e_notT1, e_andT, e_andT1, e_andT2, e_orT, e_orT1, e_orT2, e_andV, e_andV1, e_andV2, e_orV, e_orV1, e_orV2, e_notV, e_notV1, e_aNil, e_aCons, e_aCons1, e_aCons2, e_star, e_star1, e_star2, e_star3, e_lst, e_lst1, e_tup, e_tup1, e_call, e_call1, e_slot, e_slot1, e_sb, e_sb0, e_sb1, e_sb2, e_sb3, e_bs, e_bs1, e_bs2, e_lenV, e_lenV1, e_un, e_un1, e_def, e_def1, e_def2, e_def3, e_fix0, e_fix1, e_fix2, e_def4, e_def0, e_def01, e_jNil, e_jVal, e_jVal1, e_j2, e_jIo, e_jIo1, e_itD0, e_itD1, e_itD2, e_itD3, e_itJ0, e_itJ1, e_itJ2, e_itP0, e_itP1, e_itP2, e_setMany0, e_setMany1, e_nodup0, e_nodup1, e_noPart, e_part, e_part1, e_slice, e_slice1, e_slice2, e_slice3, e_lstRg, e_lstRg1, e_lstRg2, e_iSeq, e_iSeq1, e_iSeq2, e_iEn, e_iEn1, e_iEn2, e_iR1, e_iR11, e_iR2, e_iR21, e_yes, e_lc, e_lc1, e_lc2, e_wipe0, e_wipe1, e_back0, e_back1, e_back2, e_noneOwn0, e_noneOwn1, e_noneOwn2, e_noneOwn3, e_noneOwn4, e_name, e_set, e_tNil, e_tCons, e_tCons1, e_tTup, e_seq, e_seq1, e_seq2, e_seq3, e_seq4, e_seq5, e_next, e_break, e_cont, e_expr, e_expr1, e_ret, e_ret1, e_sIf, e_sIf1, e_sIf2, e_asg, e_asg1, e_asg2, e_aug, e_aug0, e_aug1, e_aug2, e_aug3, e_par, e_par1, e_par2, e_app, e_app0, e_app1, e_app2, e_setIx, e_setIx0, e_setIx1, e_setIx2, e_setIx3, e_setIx4, e_match, e_match1, e_mCase, e_mAny, e_raise, e_for, e_body, e_body1, e_body2, e_body3, e_body4, e_body5, e_outs0, e_outs1, e_outs2, e_start0, e_start1, e_addI, e_addL, e_addI2, e_sub, e_cmp, e_eqI, e_neI, e_eqB, e_isN0, e_isN1, e_isN2, e_isN3, e_notN0, e_notN1, e_notN2, e_notN3, e_int, e_intB, e_max, e_min, e_neg, e_bits, e_lenL, e_lenT, e_lenS, e_ixL, e_ixT, e_ixS, e_at0, e_at1, e_at2, e_map, e_lstOf, e_lstOfS, e_seqOf, e_seqOfT, e_seqOfS, e_isiIB, e_isiII, e_isiTT, e_isiLL]⟩)
    have e7 : ((num .ino h d : Nat) : Int) = 2 ^ (h - 1 - d) - 1 := pw1 _
    simp [m_plain_sums, b_plain_sums, e_retT, e_retT1, e_retT2, kn, e_tUnl, e_ext, e_ext0, e_ext1, e_ext2, e_dix, e_dix1, e_dix2, e_look, e_rev, e_rev1, e_lr1, e_lr11, e_isE1, e_isE2, e_isE3, e_isE4, e_isE5, e_isE6, e_try, e_try1, e_try2, e_eqAS, e_neAS, e_eqAI, e_neAI, e_bind_ok, e_bind_exc, e_bind_stk, e_var, e_var1, e_var2, e_move, e_move1, e_move2, e_C, e_fin1, e_bin, e_bin1, e_bin2, e_chain, e_chain1, e_chain2, e_chain3, e_chain4, e_chain5, e_if, e_if1, e_if2, e_tv, e_tv1, e_notT, e_notT1, e_andT, e_andT1, e_andT2, e_orT, e_orT1, e_orT2, e_andV, e_andV1, e_andV2, e_orV, e_orV1, e_orV2, e_notV, e_notV1, e_aNil, e_aCons, e_aCons1, e_aCons2, e_star, e_star1, e_star2, e_star3, e_lst, e_lst1, e_tup, e_tup1, e_call, e_call1, e_slot, e_slot1, e_sb, e_sb0, e_sb1, e_sb2, e_sb3, e_bs, e_bs1, e_bs2, e_lenV, e_lenV1, e_un, e_un1, e_def, e_def1, e_def2, e_def3, e_fix0, e_fix1, e_fix2, e_def4, e_def0, e_def01, e_jNil, e_jVal, e_jVal1, e_j2, e_jIo, e_jIo1, e_itD0, e_itD1, e_itD2, e_itD3, e_itJ0, e_itJ1, e_itJ2, e_itP0, e_itP1, e_itP2, e_setMany0, e_setMany1, e_nodup0, e_nodup1, e_noPart, e_part, e_part1, e_slice, e_slice1, e_slice2, e_slice3, e_lstRg, e_lstRg1, e_lstRg2, e_iSeq, e_iSeq1, e_iSeq2, e_iEn, e_iEn1, e_iEn2, e_iR1, e_iR11, e_iR2, e_iR21, e_yes, e_lc, e_lc1, e_lc2, e_wipe0, e_wipe1, e_back0, e_back1, e_back2, e_noneOwn0, e_noneOwn1, e_noneOwn2, e_noneOwn3, e_noneOwn4, e_name, e_set, e_tNil, e_tCons, e_tCons1, e_tTup, e_seq, e_seq1, e_seq2, e_seq3, e_seq4, e_seq5, e_next, e_break, e_cont, e_expr, e_expr1, e_ret, e_ret1, e_sIf, e_sIf1, e_sIf2, e_asg, e_asg1, e_asg2, e_aug, e_aug0, e_aug1, e_aug2, e_aug3, e_par, e_par1, e_par2, e_app, e_app0, e_app1, e_app2, e_setIx, e_setIx0, e_setIx1, e_setIx2, e_setIx3, e_setIx4, e_match, e_match1, e_mCase, e_mAny, e_raise, e_for, e_body, e_body1, e_body2, e_body3, e_body4, e_body5, e_outs0, e_outs1, e_outs2, e_start0, e_start1, e_addI, e_addL, e_addI2, e_sub, e_cmp, e_eqI, e_neI, e_eqB, e_isN0, e_isN1, e_isN2, e_isN3, e_notN0, e_notN1, e_notN2, e_notN3, e_int, e_intB, e_max, e_min, e_neg, e_bits, e_lenL, e_lenT, e_lenS, e_ixL, e_ixT, e_ixS, e_at0, e_at1, e_at2, e_map, e_lstOf, e_lstOfS, e_seqOf, e_seqOfT, e_seqOfS, e_isiIB, e_isiII, e_isiTT, e_isiLL, e1, e2, e3, e4, e7, l1, l2, zz1]
  | pre =>
    have e3 := lc_steps d (wz .pre h d) ce_plain_sums_2 [some (false, .str z_preorder), some (false, .int h), some (false, .int d), some (false, .list (rgD 1 ((d : Int) + 1))), none] 4 (by
      intro i hi
      have e5 := sh (h - 1) i ((h : Int) - (1 + (i : Int))) (by omega) (by omega)
      have e6 : wz .pre h d i = 2 ^ (h - 1 - i) - 1 := pw1 _
      refine ⟨_, false, by simp [e_tUnl, e_ext, e_ext0, e_ext1, e_ext2, e_dix, e_dix1, e_dix2, e_look, e_rev, e_rev1, e_lr1, e_lr11, e_isE1, e_isE2, e_isE3, e_isE4, e_isE5, e_isE6, e_try, e_try1, e_try2, e_eqAS, e_neAS, e_eqAI, e_neAI, e_bind_ok, e_bind_exc, e_bind_stk, e_var, e_var1, e_var2, e_move, e_move1, e_move2, e_C, e_fin1, e_bin, e_bin1, e_bin2, e_chain, e_chain1, e_chain2, e_chain3, e_chain4, e_chain5, e_if, e_if1, e_if2, e_tv, e_tv1, e_notT, e_notT1, e_andT, e_andT1, e_andT2, e_orT, e_orT1, e_orT2, e_andV, e_andV1, e_andV2, e_orV, e_orV1, e_orV2, e_notV, e_notV1, e_aNil, e_aCons, e_aCons1, e_aCons2, e_star, e_star1, e_star2, e_star3, e_lst, e_lst1, e_tup, e_tup1, e_call, e_call1, e_slot, e_slot1, e_sb, e_sb0, e_sb1, e_sb2, e_sb3, e_bs, e_bs1, e_bs2, e_lenV, e_lenV1, e_un, e_un1, e_def, e_def1, e_def2, e_def3, e_fix0, e_fix1, e_fix2, e_def4, e_def0, e_def01, e_jNil, e_jVal, e_jVal1, e_j2, e_jIo, e_jIo1, e_itD0, e_itD1, e_itD2, e_itD3, e_itJ0, e_itJ1, e_itJ2, e_itP0, e_itP1, e_itP2, e_setMany0, e_setMany1, e_nodup0, e_nodup1, e_noPart, e_part, e_part1, e_slice, e_slice1, e_slice2, e_slice3, e_lstRg, e_lstRg1, e_lstRg2, e_iSeq, e_iSeq1, e_iSeq2, e_iEn, e_iEn1, e_iEn2, e_iR1, e_iR11, e_iR2, e_iR21, e_yes, e_lc, e_lc1, e_lc2, e_wipe0, e_wipe1, e_back0, e_back1, e_back2, e_noneOwn0, e_noneOwn1, e_noneOwn2, e_noneOwn3, e_noneOwn4, e_name, e_set, e_tNil, e_tCons, e_tCons1, e_tTup, e_seq, e_seq1, e_seq2, e_seq3, e_seq4, e_seq5, e_next, e_break, e_cont, e_expr, e_expr1, e_ret, e_ret1, e_sIf, e_sIf1, e_sIf2, e_asg, e_asg1, e_asg2, e_aug, e_aug0, e_aug1, e_aug2, e_aug3, e_par, e_par1, e_par2, e_app, e_app0, e_app1, e_app2, e_setIx, e_setIx0, e_setIx1, e_setIx2, e_setIx3, e_setIx4, e_match, e_match1, e_mCase, e_mAny, e_raise, e_for, e_body, e_body1, e_body2, e_body3, e_body4, e_body5, e_outs0, e_outs1, e_outs2, e_start0, e_start1, e_addI, e_addL, e_addI2, e_sub, e_cmp, e_eqI, e_neI, e_eqB, e_isN0, e_isN1, e_isN2, e_isN3, e_notN0, e_notN1, e_notN2, e_notN3, e_int, e_intB, e_max, e_min, e_neg, e_bits, e_lenL, e_lenT, e_lenS, e_ixL, e_ixT, e_ixS, e_at0, e_at1, e_at2, e_map, e_lstOf, e_lstOfS, e_seqOf, e_seqOfT, e_seqOfS, e_isiIB, e_isiII, e_isiTT, e_isiLL]; rfl, by simp [ce_plain_sums_2, e_tUnl, e_ext, e_ext0, e_ext1, e_ext2, e_dix, e_dix1, e_dix2, e_look, e_rev, e_rev1, e_lr1, e_lr11, e_isE1, e_isE2, e_isE3, e_isE4, e_isE5, e_isE6, e_try, e_try1, e_try2, e_eqAS, e_neAS, e_eqAI, e_neAI, e_bind_ok, e_bind_exc, e_bind_stk, e_var, e_var1, e_var2, e_move, e_move1, e_move2, e_C, e_fin1, e_bin, e_bin1, e_bin2, e_chain, e_chain1, e_chain2, e_chain3, e_chain4, e_chain5, e_if, e_if1, e_if2, e_tv, e_tv1, e_notT, e_notT1, e_andT, e_andT1, e_andT2, e_orT, e_orT1, e_orT2, e_andV, e_andV1, e_andV2, e_orV, e_orV1, e_orV2, e_notV, e_notV1, e_aNil, e_aCons, e_aCons1, e_aCons2, e_star, e_star1, e_star2, e_star3, e_lst, e_lst1, e_tup, e_tup1, e_call, e_call1, e_slot, e_slot1, e_sb, e_sb0, e_sb1, e_sb2, e_sb3, e_bs, e_bs1, e_bs2, e_lenV, e_lenV1, e_un, e_un1, e_def, e_def1, e_def2, e_def3, e_fix0, e_fix1, e_fix2, e_def4, e_def0, e_def01, e_jNil, e_jVal, e_jVal1, e_j2, e_jIo, e_jIo1, e_itD0, e_itD1, e_itD2, e_itD3, e_itJ0, e_itJ1, e_itJ2, e_itP0, e_itP1, e_itP2, e_setMany0, e_setMany1, e_nodup0, e_nodup1, e_noPart, e_part, e_part1, e_slice, e_slice1, e_slice2, e_slice3, e_lstRg, e_lstRg1, e_lstRg2, e_iSeq, e_iSeq1, e_iSeq2, e_iEn, e_iEn1, e_iEn2, e_iR1, e_iR11, e_iR2, e_iR21, e_yes, e_lc, e_lc1, e_lc2, e_wipe0, e_wipe1, e_back0, e_back1, e_back2, e_noneOwn0, e_noneOwn1, e_noneOwn2, e_noneOwn3, e_noneOwn4, e_name, e_set, e_tNil, e_tCons, e_tCons1, e_tTup, e_seq, e_seq1, e_seq2, e_seq3, e_seq4, e_seq5, e_next, e_break, e_cont, e_expr, e_expr1, e_ret, e_ret1, e_sIf, e_sIf1, e_sIf2, e_asg, e_asg1, e_asg2, e_aug, e_aug0, e_aug1, e_aug2, e_aug3, e_par, e_par1, e_par2, e_app, e_app0, e_app1, e_app2, e_setIx, e_setIx0, e_setIx1, e_setIx2, e_setIx3, e_setIx4, e_match, e_match1, e_mCase, e_mAny, e_raise, e_for, e_body, e_body1, e_body2, e_body3, e_body4, e_body5, e_outs0, e_outs1, e_outs2, e_start0, e_start1, e_addI, e_addL, e_addI2, e_sub, e_cmp, e_eqI, e_neI, e_eqB, e_isN0, e_isN1, e_isN2, e_isN3, e_notN0, e_notN1, e_notN2, e_notN3, e_int, e_intB, e_max, e_min, e_neg, e_bits, e_lenL, e_lenT, e_lenS, e_ixL, e_ixT, e_ixS, e_at0, e_at1, e_at2, e_map, e_lstOf, e_lstOfS, e_seqOf, e_seqOfT, e_seqOfS, e_isiIB, e_isiII, e_isiTT, e_isiLL, e5, e6], by simp [e_tUnl, e_ext, e_ext0, e_ext1, e_ext2, e_dix, e_dix1, e_dix2, e_look, e_rev, e_rev1, e_lr1, e_lr11, e_isE1, e_isE2, e_isE3, e_isE4, e_isE5, e_isE6, e_try, e_try1, e_try2, e_eqAS, e_neAS, e_eqAI, e_neAI, e_bind_ok, e_bind_exc, e_bind_stk, e_var, e_var1, e_var2, e_move, e_move1, e_move2, e_C, e_fin1, e_bin, e_bin1, e_bin2, e_chain, e_chain1, e_chain2, e_chain3, e_chain4, e_chain5, e_if, e_if1, e_if2, e_tv, e_tv1, e_notT, e_notT1, e_andT, e_andT1, e_andT2, e_orT, e_orT1, e_orT2, e_andV, e_andV1, e_andV2, e_orV, e_orV1, e_orV2, e_notV, e_notV1, e_aNil, e_aCons, e_aCons1, e_aCons2, e_star, e_star1, e_star2, e_star3, e_lst, e_lst1, e_tup, e_tup1, e_call, e_call1, e_slot, e_slot1, e_sb, e_sb0, e_sb1, e_sb2, e_sb3, e_bs, e_bs1, e_bs2, e_lenV, e_lenV1, e_un, e_un1, e_def, e_def1, e_def2, e_def3, e_fix0, e_fix1, e_fix2, e_def4, e_def0, e_def01, e_jNil, e_jVal, e_jVal1, e_j2, e_jIo, e_jIo1, e_itD0, e_itD1, e_itD2, e_itD3, e_itJ0, e_itJ1, e_itJ2, e_itP0, e_itP1, e_itP2, e_setMany0, e_setMany1, e_nodup0, e_nodup1, e_noPart, e_part, e_part1, e_slice, e_slice1, e_slice2, e_slice3, e_lstRg, e_lstRg1, e_lstRg2, e_iSeq, e_iSeq1, e_iSeq2, e_iEn, e_iEn1, e_iEn2, e_iR1, e_iR11, e_iR2, e_iR21, e_yes, e_lc, e_lc1, e_lc2, e_wipe0, e_wipe1, e_back0, e_back1, e_back2, e_noneOwn0, e_noneOwn1, e_noneOwn2, e_noneOwn3, e_noneOwn4, e_name, e_set, e_tNil, e_tCons, e_tCons1, e_tTup, e_seq, e_seq1, e_seq2, e_seq3, e_seq4, e_seq5, e_next, e_break, e_cont, e_expr, e_expr1, e_ret, e_ret1, e_sIf, e_sIf1, e_sIf2, e_asg, e_asg1, e_asg2, e_aug, e_aug0, e_aug1, e_aug2, e_aug3, e_par, e_par1, e_par2, e_app, e_app0, e_app1, e_app2, e_setIx, e_setIx0, e_setIx1, e_setIx2, e_setIx3, e_setIx4, e_match, e_match1, e_mCase, e_mAny, e_raise, e_for, e_body, e_body1, e_body2, e_body3, e_body4, e_body5, e_outs0, e_outs1, e_outs2, e_start0, e_start1, e_addI, e_addL, e_addI2, e_sub, e_cmp, e_eqI, e_neI, e_eqB, e_isN0, e_isN1, e_isN2, e_isN3, e_notN0, e_notN1, e_notN2, e_notN3, e_int, e_intB, e_max, e_min, e_neg, e_bits, e_lenL, e_lenT, e_lenS, e_ixL, e_ixT, e_ixS, e_at0, e_at1, e_at2, e_map, e_lstOf, e_lstOfS, e_seqOf, e_seqOfT, e_seqOfS, e_isiIB, e_isiII, e_isiTT, e_isiLL]⟩)
    have e7 : ((num .pre h d : Nat) : Int) = d := rfl
    simp [m_plain_sums, b_plain_sums, e_retT, e_retT1, e_retT2, kn, e_tUnl, e_ext, e_ext0, e_ext1, e_ext2, e_dix, e_dix1, e_dix2, e_look, e_rev, e_rev1, e_lr1, e_lr11, e_isE1, e_isE2, e_isE3, e_isE4, e_isE5, e_isE6, e_try, e_try1, e_try2, e_eqAS, e_neAS, e_eqAI, e_neAI, e_bind_ok, e_bind_exc, e_bind_stk, e_var, e_var1, e_var2, e_move, e_move1, e_move2, e_C, e_fin1, e_bin, e_bin1, e_bin2, e_chain, e_chain1, e_chain2, e_chain3, e_chain4, e_chain5, e_if, e_if1, e_if2, e_tv, e_tv1, e_notT, e_notT1, e_andT, e_andT1, e_andT2, e_orT, e_orT1, e_orT2, e_andV, e_andV1, e_andV2, e_orV, e_orV1, e_orV2, e_notV, e_notV1, e_aNil, e_aCons, e_aCons1, e_aCons2, e_star, e_star1, e_star2, e_star3, e_lst, e_lst1, e_tup, e_tup1, e_call, e_call1, e_slot, e_slot1, e_sb, e_sb0, e_sb1, e_sb2, e_sb3, e_bs, e_bs1, e_bs2, e_lenV, e_lenV1, e_un, e_un1, e_def, e_def1, e_def2, e_def3, e_fix0, e_fix1, e_fix2, e_def4, e_def0, e_def01, e_jNil, e_jVal, e_jVal1, e_j2, e_jIo, e_jIo1, e_itD0, e_itD1, e_itD2, e_itD3, e_itJ0, e_itJ1, e_itJ2, e_itP0, e_itP1, e_itP2, e_setMany0, e_setMany1, e_nodup0, e_nodup1, e_noPart, e_part, e_part1, e_slice, e_slice1, e_slice2, e_slice3, e_lstRg, e_lstRg1, e_lstRg2, e_iSeq, e_iSeq1, e_iSeq2, e_iEn, e_iEn1, e_iEn2, e_iR1, e_iR11, e_iR2, e_iR21, e_yes, e_lc, e_lc1, e_lc2, e_wipe0, e_wipe1, e_back0, e_back1, e_back2, e_noneOwn0, e_noneOwn1, e_noneOwn2, e_noneOwn3, e_noneOwn4, e_name, e_set, e_tNil, e_tCons, e_tCons1, e_tTup, e_seq, e_seq1, e_seq2, e_seq3, e_seq4, e_seq5, e_next, e_break, e_cont, e_expr, e_expr1, e_ret, e_ret1, e_sIf, e_sIf1, e_sIf2, e_asg, e_asg1, e_asg2, e_aug, e_aug0, e_aug1, e_aug2, e_aug3, e_par, e_par1, e_par2, e_app, e_app0, e_app1, e_app2, e_setIx, e_setIx0, e_setIx1, e_setIx2, e_setIx3, e_setIx4, e_match, e_match1, e_mCase, e_mAny, e_raise, e_for, e_body, e_body1, e_body2, e_body3, e_body4, e_body5, e_outs0, e_outs1, e_outs2, e_start0, e_start1, e_addI, e_addL, e_addI2, e_sub, e_cmp, e_eqI, e_neI, e_eqB, e_isN0, e_isN1, e_isN2, e_isN3, e_notN0, e_notN1, e_notN2, e_notN3, e_int, e_intB, e_max, e_min, e_neg, e_bits, e_lenL, e_lenT, e_lenS, e_ixL, e_ixT, e_ixS, e_at0, e_at1, e_at2, e_map, e_lstOf, e_lstOfS, e_seqOf, e_seqOfT, e_seqOfS, e_isiIB, e_isiII, e_isiTT, e_isiLL, e2, e3, e4, e7, l1, l2, zz2, zz3]
  | post =>
    have e1 := sh h d ((h : Int) - d) (by omega) (by omega)
    have e3 := lc_steps d (wz .post h d) ce_plain_sums_1 [some (false, .str z_postorder), some (false, .int h), some (false, .int d), some (false, .list (rgD 1 ((d : Int) + 1))), none] 4 (by
      intro i hi
      have e5 := sh (h - 1) i ((h : Int) - (1 + (i : Int))) (by omega) (by omega)
      have e6 : wz .post h d i = 2 ^ (h - 1 - i) - 1 := pw1 _
      refine ⟨_, false, by simp [e_tUnl, e_ext, e_ext0, e_ext1, e_ext2, e_dix, e_dix1, e_dix2, e_look, e_rev, e_rev1, e_lr1, e_lr11, e_isE1, e_isE2, e_isE3, e_isE4, e_isE5, e_isE6, e_try, e_try1, e_try2, e_eqAS, e_neAS, e_eqAI, e_neAI, e_bind_ok, e_bind_exc, e_bind_stk, e_var, e_var1, e_var2, e_move, e_move1, e_move2, e_C, e_fin1, e_bin, e_bin1, e_bin2, e_chain, e_chain1, e_chain2, e_chain3, e_chain4, e_chain5, e_if, e_if1, e_if2, e_tv, e_tv1, e_notT, e_notT1, e_andT, e_andT1, e_andT2, e_orT, e_orT1, e_orT2, e_andV, e_andV1, e_andV2, e_orV, e_orV1, e_orV2, e_notV, e_notV1, e_aNil, e_aCons, e_aCons1, e_aCons2, e_star, e_star1, e_star2, e_star3, e_lst, e_lst1, e_tup, e_tup1, e_call, e_call1, e_slot, e_slot1, e_sb, e_sb0, e_sb1, e_sb2, e_sb3, e_bs, e_bs1, e_bs2, e_lenV, e_lenV1, e_un, e_un1, e_def, e_def1, e_def2, e_def3, e_fix0, e_fix1, e_fix2, e_def4, e_def0, e_def01, e_jNil, e_jVal, e_jVal1, e_j2, e_jIo, e_jIo1, e_itD0, e_itD1, e_itD2, e_itD3, e_itJ0, e_itJ1, e_itJ2, e_itP0, e_itP1, e_itP2, e_setMany0, e_setMany1, e_nodup0, e_nodup1, e_noPart, e_part, e_part1, e_slice, e_slice1, e_slice2, e_slice3, e_lstRg, e_lstRg1, e_lstRg2, e_iSeq, e_iSeq1, e_iSeq2, e_iEn, e_iEn1, e_iEn2, e_iR1, e_iR11, e_iR2, e_iR21, e_yes, e_lc, e_lc1, e_lc2, e_wipe0, e_wipe1, e_back0, e_back1, e_back2, e_noneOwn0, e_noneOwn1, e_noneOwn2, e_noneOwn3, e_noneOwn4, e_name, e_set, e_tNil, e_tCons, e_tCons1, e_tTup, e_seq, e_seq1, e_seq2, e_seq3, e_seq4, e_seq5, e_next, e_break, e_cont, e_expr, e_expr1, e_ret, e_ret1, e_sIf, e_sIf1, e_sIf2, e_asg, e_asg1, e_asg2, e_aug, e_aug0, e_aug1, e_aug2, e_aug3, e_par, e_par1, e_par2, e_app, e_app0, e_app1, e_app2, e_setIx, e_setIx0, e_setIx1, e_setIx2, e_setIx3, e_setIx4, e_match, e_match1, e_mCase, e_mAny, e_raise, e_for, e_body, e_body1, e_body2, e_body3, e_body4, e_body5, e_outs0, e_outs1, e_outs2, e_start0, e_start1, e_addI, e_addL, e_addI2, e_sub, e_cmp, e_eqI, e_neI, e_eqB, e_isN0, e_isN1, e_isN2, e_isN3, e_notN0, e_notN1, e_notN2, e_notN3, e_int, e_intB, e_max, e_min, e_neg, e_bits, e_lenL, e_lenT, e_lenS, e_ixL, e_ixT, e_ixS, e_at0, e_at1, e_at2, e_map, e_lstOf, e_lstOfS, e_seqOf, e_seqOfT, e_seqOfS, e_isiIB, e_isiII, e_isiTT, e_isiLL]; rfl, by simp [ce_plain_sums_1, e_tUnl, e_ext, e_ext0, e_ext1, e_ext2, e_dix, e_dix1, e_dix2, e_look, e_rev, e_rev1, e_lr1, e_lr11, e_isE1, e_isE2, e_isE3, e_isE4, e_isE5, e_isE6, e_try, e_try1, e_try2, e_eqAS, e_neAS, e_eqAI, e_neAI, e_bind_ok, e_bind_exc, e_bind_stk, e_var, e_var1, e_var2, e_move, e_move1, e_move2, e_C, e_fin1, e_bin, e_bin1, e_bin2, e_chain, e_chain1, e_chain2, e_chain3, e_chain4, e_chain5, e_if, e_if1, e_if2, e_tv, e_tv1, e_notT, e_notT1, e_andT, e_andT1, e_andT2, e_orT, e_orT1, e_orT2, e_andV, e_andV1, e_andV2, e_orV, e_orV1, e_orV2, e_notV, e_notV1, e_aNil, e_aCons, e_aCons1, e_aCons2, e_star, e_star1, e_star2, e_star3, e_lst, e_lst1, e_tup, e_tup1, e_call, e_call1, e_slot, e_slot1, e_sb, e_sb0, e_sb1, e_sb2, e_sb3, e_bs, e_bs1, e_bs2, e_lenV, e_lenV1, e_un, e_un1, e_def, e_def1, e_def2, e_def3, e_fix0, e_fix1, e_fix2, e_def4, e_def0, e_def01, e_jNil, e_jVal, e_jVal1, e_j2, e_jIo, e_jIo1, e_itD0, e_itD1, e_itD2, e_itD3, e_itJ0, e_itJ1, e_itJ2, e_itP0, e_itP1, e_itP2, e_setMany0, e_setMany1, e_nodup0, e_nodup1, e_noPart, e_part, e_part1, e_slice, e_slice1, e_slice2, e_slice3, e_lstRg, e_lstRg1, e_lstRg2, e_iSeq, e_iSeq1, e_iSeq2, e_iEn, e_iEn1, e_iEn2, e_iR1, e_iR11, e_iR2, e_iR21, e_yes, e_lc, e_lc1, e_lc2, e_wipe0, e_wipe1, e_back0, e_back1, e_back2, e_noneOwn0, e_noneOwn1, e_noneOwn2, e_noneOwn3, e_noneOwn4, e_name, e_set, e_tNil, e_tCons, e_tCons1, e_tTup, e_seq, e_seq1, e_seq2, e_seq3, e_seq4, e_seq5, e_next, e_break, e_cont, e_expr, e_expr1, e_ret, e_ret1, e_sIf, e_sIf1, e_sIf2, e_asg, e_asg1, e_asg2, e_aug, e_aug0, e_aug1, e_aug2, e_aug3, e_par, e_par1, e_par2, e_app, e_app0, e_app1, e_app2, e_setIx, e_setIx0, e_setIx1, e_setIx2, e_setIx3, e_setIx4, e_match, e_match1, e_mCase, e_mAny, e_raise, e_for, e_body, e_body1, e_body2, e_body3, e_body4, e_body5, e_outs0, e_outs1, e_outs2, e_start0, e_start1, e_addI, e_addL, e_addI2, e_sub, e_cmp, e_eqI, e_neI, e_eqB, e_isN0, e_isN1, e_isN2, e_isN3, e_notN0, e_notN1, e_notN2, e_notN3, e_int, e_intB, e_max, e_min, e_neg, e_bits, e_lenL, e_lenT, e_lenS, e_ixL, e_ixT, e_ixS, e_at0, e_at1, e_at2, e_map, e_lstOf, e_lstOfS, e_seqOf, e_seqOfT, e_seqOfS, e_isiIB, e_isiII, e_isiTT, e_isiLL, e5, e6], by simp [e_tUnl, e_ext, e_ext0, e_ext1, e_ext2, e_dix, e_dix1, e_dix2, e_look, e_rev, e_rev1, e_lr1, e_lr11, e_isE1, e_isE2, e_isE3, e_isE4, e_isE5, e_isE6, e_try, e_try1, e_try2, e_eqAS, e_neAS, e_eqAI, e_neAI, e_bind_ok, e_bind_exc, e_bind_stk, e_var, e_var1, e_var2, e_move, e_move1, e_move2, e_C, e_fin1, e_bin, e_bin1, e_bin2, e_chain, e_chain1, e_chain2, e_chain3, e_chain4, e_chain5, e_if, e_if1, e_if2, e_tv, e_tv1, e_notT, e_notT1, e_andT, e_andT1, e_andT2, e_orT, e_orT1, e_orT2, e_andV, e_andV1, e_andV2, e_orV, e_orV1, e_orV2, e_notV, e_notV1, e_aNil, e_aCons, e_aCons1, e_aCons2, e_star, e_star1, e_star2, e_star3, e_lst, e_lst1, e_tup, e_tup1, e_call, e_call1, e_slot, e_slot1, e_sb, e_sb0, e_sb1, e_sb2, e_sb3, e_bs, e_bs1, e_bs2, e_lenV, e_lenV1, e_un, e_un1, e_def, e_def1, e_def2, e_def3, e_fix0, e_fix1, e_fix2, e_def4, e_def0, e_def01, e_jNil, e_jVal, e_jVal1, e_j2, e_jIo, e_jIo1, e_itD0, e_itD1, e_itD2, e_itD3, e_itJ0, e_itJ1, e_itJ2, e_itP0, e_itP1, e_itP2, e_setMany0, e_setMany1, e_nodup0, e_nodup1, e_noPart, e_part, e_part1, e_slice, e_slice1, e_slice2, e_slice3, e_lstRg, e_lstRg1, e_lstRg2, e_iSeq, e_iSeq1, e_iSeq2, e_iEn, e_iEn1, e_iEn2, e_iR1, e_iR11, e_iR2, e_iR21, e_yes, e_lc, e_lc1, e_lc2, e_wipe0, e_wipe1, e_back0, e_back1, e_back2, e_noneOwn0, e_noneOwn1, e_noneOwn2, e_noneOwn3, e_noneOwn4, e_name, e_set, e_tNil, e_tCons, e_tCons1, e_tTup, e_seq, e_seq1, e_seq2, e_seq3, e_seq4, e_seq5, e_next, e_break, e_cont, e_expr, e_expr1, e_ret, e_ret1, e_sIf, e_sIf1, e_sIf2, e_asg, e_asg1, e_asg2, e_aug, e_aug0, e_aug1, e_aug2, e_aug3, e_par, e_par1, e_par2, e_app, e_app0, e_app1, e_app2, e_setIx, e_setIx0, e_setIx1, e_setIx2, e_setIx3, e_setIx4, e_match, e_match1, e_mCase, e_mAny, e_raise, e_for, e_body, e_body1, e_body2, e_body3, e_body4, e_body5, e_outs0, e_outs1, e_outs2, e_start0, e_start1, e_addI, e_addL, e_addI2, e_sub, e_cmp, e_eqI, e_neI, e_eqB, e_isN0, e_isN1, e_isN2, e_isN3, e_notN0, e_notN1, e_notN2, e_notN3, e_int, e_intB, e_max, e_min, e_neg, e_bits, e_lenL, e_lenT, e_lenS, e_ixL, e_ixT, e_ixS, e_at0, e_at1, e_at2, e_map, e_lstOf, e_lstOfS, e_seqOf, e_seqOfT, e_seqOfS, e_isiIB, e_isiII, e_isiTT, e_isiLL]⟩)
    have e7 : ((num .post h d : Nat) : Int) = 2 ^ (h - d) - 2 := pw2 _ (by omega)
    simp [m_plain_sums, b_plain_sums, e_retT, e_retT1, e_retT2, kn, e_tUnl, e_ext, e_ext0, e_ext1, e_ext2, e_dix, e_dix1, e_dix2, e_look, e_rev, e_rev1, e_lr1, e_lr11, e_isE1, e_isE2, e_isE3, e_isE4, e_isE5, e_isE6, e_try, e_try1, e_try2, e_eqAS, e_neAS, e_eqAI, e_neAI, e_bind_ok, e_bind_exc, e_bind_stk, e_var, e_var1, e_var2, e_move, e_move1, e_move2, e_C, e_fin1, e_bin, e_bin1, e_bin2, e_chain, e_chain1, e_chain2, e_chain3, e_chain4, e_chain5, e_if, e_if1, e_if2, e_tv, e_tv1, e_notT, e_notT1, e_andT, e_andT1, e_andT2, e_orT, e_orT1, e_orT2, e_andV, e_andV1, e_andV2, e_orV, e_orV1, e_orV2, e_notV, e_notV1, e_aNil, e_aCons, e_aCons1, e_aCons2, e_star, e_star1, e_star2, e_star3, e_lst, e_lst1, e_tup, e_tup1, e_call, e_call1, e_slot, e_slot1, e_sb, e_sb0, e_sb1, e_sb2, e_sb3, e_bs, e_bs1, e_bs2, e_lenV, e_lenV1, e_un, e_un1, e_def, e_def1, e_def2, e_def3, e_fix0, e_fix1, e_fix2, e_def4, e_def0, e_def01, e_jNil, e_jVal, e_jVal1, e_j2, e_jIo, e_jIo1, e_itD0, e_itD1, e_itD2, e_itD3, e_itJ0, e_itJ1, e_itJ2, e_itP0, e_itP1, e_itP2, e_setMany0, e_setMany1, e_nodup0, e_nodup1, e_noPart, e_part, e_part1, e_slice, e_slice1, e_slice2, e_slice3, e_lstRg, e_lstRg1, e_lstRg2, e_iSeq, e_iSeq1, e_iSeq2, e_iEn, e_iEn1, e_iEn2, e_iR1, e_iR11, e_iR2, e_iR21, e_yes, e_lc, e_lc1, e_lc2, e_wipe0, e_wipe1, e_back0, e_back1, e_back2, e_noneOwn0, e_noneOwn1, e_noneOwn2, e_noneOwn3, e_noneOwn4, e_name, e_set, e_tNil, e_tCons, e_tCons1, e_tTup, e_seq, e_seq1, e_seq2, e_seq3, e_seq4, e_seq5, e_next, e_break, e_cont, e_expr, e_expr1, e_ret, e_ret1, e_sIf, e_sIf1, e_sIf2, e_asg, e_asg1, e_asg2, e_aug, e_aug0, e_aug1, e_aug2, e_aug3, e_par, e_par1, e_par2, e_app, e_app0, e_app1, e_app2, e_setIx, e_setIx0, e_setIx1, e_setIx2, e_setIx3, e_setIx4, e_match, e_match1, e_mCase, e_mAny, e_raise, e_for, e_body, e_body1, e_body2, e_body3, e_body4, e_body5, e_outs0, e_outs1, e_outs2, e_start0, e_start1, e_addI, e_addL, e_addI2, e_sub, e_cmp, e_eqI, e_neI, e_eqB, e_isN0, e_isN1, e_isN2, e_isN3, e_notN0, e_notN1, e_notN2, e_notN3, e_int, e_intB, e_max, e_min, e_neg, e_bits, e_lenL, e_lenT, e_lenS, e_ixL, e_ixT, e_ixS, e_at0, e_at1, e_at2, e_map, e_lstOf, e_lstOfS, e_seqOf, e_seqOfT, e_seqOfS, e_isiIB, e_isiII, e_isiTT, e_isiLL, e1, e2, e3, e4, e7, l1, l2, zz4, zz5, zz6]
  | les => cases hc
  | gre => cases hc
  | pow => cases hc
theorem cutl (k : Kd) (hc : isCut k = true) (h : Nat) (h2 : 2 ≤ h) (hh : h ≤ 100) : m_cut_levels [.str (kn k), .int h] = .ok (.int (topOf k h : Nat), false) [] := by
  have n1 : ((h : Int) == 1) = false := by simp; omega
  have c := cutIn k
  rw [hc] at c
  have p9000 : (2 : Int).natAbs < 2 ^ 9000 := Nat.lt_of_lt_of_le (show (2 : Int).natAbs < 2 ^ 2 by decide) (Nat.pow_le_pow_right (by omega) (by omega))
  have d1 : dDiv (.int h) (.int 2) = some (.int ((h : Int) / 2), false) := dDiv_ok (by omega) p9000
  have d2 : dDiv (.int ((h : Int) + 1)) (.int 2) = some (.int (((h : Int) + 1) / 2), false) := dDiv_ok (by omega) p9000
  cases k with
  | les =>
    have e : ((topOf .les h : Nat) : Int) = (h : Int) / 2 := by show ((h / 2 : Nat) : Int) = _; omega
    simp only [kn] at c ⊢
    simp [m_cut_levels, b_cut_levels, e_tUnl, e_ext, e_ext0, e_ext1, e_ext2, e_dix, e_dix1, e_dix2, e_look, e_rev, e_rev1, e_lr1, e_lr11, e_isE1, e_isE2, e_isE3, e_isE4, e_isE5, e_isE6, e_try, e_try1, e_try2, e_eqAS, e_neAS, e_eqAI, e_neAI, e_bind_ok, e_bind_exc, e_bind_stk, e_var, e_var1, e_var2, e_move, e_move1, e_move2, e_C, e_fin1, e_bin, e_bin1, e_bin2, e_chain, e_chain1, e_chain2, e_chain3, e_chain4, e_chain5, e_if, e_if1, e_if2, e_tv, e_tv1, e_notT, e_notT1, e_andT, e_andT1, e_andT2, e_orT, e_orT1, e_orT2, e_andV, e_andV1, e_andV2, e_orV, e_orV1, e_orV2, e_notV, e_notV1, e_aNil, e_aCons, e_aCons1, e_aCons2, e_star, e_star1, e_star2, e_star3, e_lst, e_lst1, e_tup, e_tup1, e_call, e_call1, e_slot, e_slot1, e_sb, e_sb0, e_sb1, e_sb2, e_sb3, e_bs, e_bs1, e_bs2, e_lenV, e_lenV1, e_un, e_un1, e_def, e_def1, e_def2, e_def3, e_fix0, e_fix1, e_fix2, e_def4, e_def0, e_def01, e_jNil, e_jVal, e_jVal1, e_j2, e_jIo, e_jIo1, e_itD0, e_itD1, e_itD2, e_itD3, e_itJ0, e_itJ1, e_itJ2, e_itP0, e_itP1, e_itP2, e_setMany0, e_setMany1, e_nodup0, e_nodup1, e_noPart, e_part, e_part1, e_slice, e_slice1, e_slice2, e_slice3, e_lstRg, e_lstRg1, e_lstRg2, e_iSeq, e_iSeq1, e_iSeq2, e_iEn, e_iEn1, e_iEn2, e_iR1, e_iR11, e_iR2, e_iR21, e_yes, e_lc, e_lc1, e_lc2, e_wipe0, e_wipe1, e_back0, e_back1, e_back2, e_noneOwn0, e_noneOwn1, e_noneOwn2, e_noneOwn3, e_noneOwn4, e_name, e_set, e_tNil, e_tCons, e_tCons1, e_tTup, e_seq, e_seq1, e_seq2, e_seq3, e_seq4, e_seq5, e_next, e_break, e_cont, e_expr, e_expr1, e_ret, e_ret1, e_sIf, e_sIf1, e_sIf2, e_asg, e_asg1, e_asg2, e_aug, e_aug0, e_aug1, e_aug2, e_aug3, e_par, e_par1, e_par2, e_app, e_app0, e_app1, e_app2, e_setIx, e_setIx0, e_setIx1, e_setIx2, e_setIx3, e_setIx4, e_match, e_match1, e_mCase, e_mAny, e_raise, e_for, e_body, e_body1, e_body2, e_body3, e_body4, e_body5, e_outs0, e_outs1, e_outs2, e_start0, e_start1, e_addI, e_addL, e_addI2, e_sub, e_cmp, e_eqI, e_neI, e_eqB, e_isN0, e_isN1, e_isN2, e_isN3, e_notN0, e_notN1, e_notN2, e_notN3, e_int, e_intB, e_max, e_min, e_neg, e_bits, e_lenL, e_lenT, e_lenS, e_ixL, e_ixT, e_ixS, e_at0, e_at1, e_at2, e_map, e_lstOf, e_lstOfS, e_seqOf, e_seqOfT, e_seqOfS, e_isiIB, e_isiII, e_isiTT, e_isiLL, c, n1, d1, e]
  | gre =>
    have e : ((topOf .gre h : Nat) : Int) = ((h : Int) + 1) / 2 := by show (((h + 1) / 2 : Nat) : Int) = _; omega
    simp only [kn] at c ⊢
    simp [m_cut_levels, b_cut_levels, e_tUnl, e_ext, e_ext0, e_ext1, e_ext2, e_dix, e_dix1, e_dix2, e_look, e_rev, e_rev1, e_lr1, e_lr11, e_isE1, e_isE2, e_isE3, e_isE4, e_isE5, e_isE6, e_try, e_try1, e_try2, e_eqAS, e_neAS, e_eqAI, e_neAI, e_bind_ok, e_bind_exc, e_bind_stk, e_var, e_var1, e_var2, e_move, e_move1, e_move2, e_C, e_fin1, e_bin, e_bin1, e_bin2, e_chain, e_chain1, e_chain2, e_chain3, e_chain4, e_chain5, e_if, e_if1, e_if2, e_tv, e_tv1, e_notT, e_notT1, e_andT, e_andT1, e_andT2, e_orT, e_orT1, e_orT2, e_andV, e_andV1, e_andV2, e_orV, e_orV1, e_orV2, e_notV, e_notV1, e_aNil, e_aCons, e_aCons1, e_aCons2, e_star, e_star1, e_star2, e_star3, e_lst, e_lst1, e_tup, e_tup1, e_call, e_call1, e_slot, e_slot1, e_sb, e_sb0, e_sb1, e_sb2, e_sb3, e_bs, e_bs1, e_bs2, e_lenV, e_lenV1, e_un, e_un1, e_def, e_def1, e_def2, e_def3, e_fix0, e_fix1, e_fix2, e_def4, e_def0, e_def01, e_jNil, e_jVal, e_jVal1, e_j2, e_jIo, e_jIo1, e_itD0, e_itD1, e_itD2, e_itD3, e_itJ0, e_itJ1, e_itJ2, e_itP0, e_itP1, e_itP2, e_setMany0, e_setMany1, e_nodup0, e_nodup1, e_noPart, e_part, e_part1, e_slice, e_slice1, e_slice2, e_slice3, e_lstRg, e_lstRg1, e_lstRg2, e_iSeq, e_iSeq1, e_iSeq2, e_iEn, e_iEn1, e_iEn2, e_iR1, e_iR11, e_iR2, e_iR21, e_yes, e_lc, e_lc1, e_lc2, e_wipe0, e_wipe1, e_back0, e_back1, e_back2, e_noneOwn0, e_noneOwn1, e_noneOwn2, e_noneOwn3, e_noneOwn4, e_name, e_set, e_tNil, e_tCons, e_tCons1, e_tTup, e_seq, e_seq1, e_seq2, e_seq3, e_seq4, e_seq5, e_next, e_break, e_cont, e_expr, e_expr1, e_ret, e_ret1, e_sIf, e_sIf1, e_sIf2, e_asg, e_asg1, e_asg2, e_aug, e_aug0, e_aug1, e_aug2, e_aug3, e_par, e_par1, e_par2, e_app, e_app0, e_app1, e_app2, e_setIx, e_setIx0, e_setIx1, e_setIx2, e_setIx3, e_setIx4, e_match, e_match1, e_mCase, e_mAny, e_raise, e_for, e_body, e_body1, e_body2, e_body3, e_body4, e_body5, e_outs0, e_outs1, e_outs2, e_start0, e_start1, e_addI, e_addL, e_addI2, e_sub, e_cmp, e_eqI, e_neI, e_eqB, e_isN0, e_isN1, e_isN2, e_isN3, e_notN0, e_notN1, e_notN2, e_notN3, e_int, e_intB, e_max, e_min, e_neg, e_bits, e_lenL, e_lenT, e_lenS, e_ixL, e_ixT, e_ixS, e_at0, e_at1, e_at2, e_map, e_lstOf, e_lstOfS, e_seqOf, e_seqOfT, e_seqOfS, e_isiIB, e_isiII, e_isiTT, e_isiLL, c, n1, d2, e, zz7]
  | pow =>
    have b1 : Builtin.Int.intBits ((h : Int) - 1) = Nat.log2 (h - 1) + 1 := by
      rw [show (h : Int) - 1 = ((h - 1 : Nat) : Int) by omega]
      unfold Builtin.Int.intBits
      have z : ¬ h - 1 = 0 := by omega
      simp [z]
    have l : Nat.log2 (h - 1) ≤ 100 := by
      have a : 2 ^ Nat.log2 (h - 1) ≤ h - 1 := Nat.log2_self_le (by omega)
      have := Nat.lt_two_pow_self (n := Nat.log2 (h - 1))
      omega
    have e1 := shl1 (Nat.log2 (h - 1)) (by omega)
    have e : ((topOf .pow h : Nat) : Int) = (h : Int) - 2 ^ Nat.log2 (h - 1) := by
      have a : 2 ^ Nat.log2 (h - 1) ≤ h - 1 := Nat.log2_self_le (by omega)
      have := pw (Nat.log2 (h - 1))
      show ((h - 2 ^ Nat.log2 (h - 1) : Nat) : Int) = _
      omega
    simp only [kn] at c ⊢
    simp [m_cut_levels, b_cut_levels, e_tUnl, e_ext, e_ext0, e_ext1, e_ext2, e_dix, e_dix1, e_dix2, e_look, e_rev, e_rev1, e_lr1, e_lr11, e_isE1, e_isE2, e_isE3, e_isE4, e_isE5, e_isE6, e_try, e_try1, e_try2, e_eqAS, e_neAS, e_eqAI, e_neAI, e_bind_ok, e_bind_exc, e_bind_stk, e_var, e_var1, e_var2, e_move, e_move1, e_move2, e_C, e_fin1, e_bin, e_bin1, e_bin2, e_chain, e_chain1, e_chain2, e_chain3, e_chain4, e_chain5, e_if, e_if1, e_if2, e_tv, e_tv1, e_notT, e_notT1, e_andT, e_andT1, e_andT2, e_orT, e_orT1, e_orT2, e_andV, e_andV1, e_andV2, e_orV, e_orV1, e_orV2, e_notV, e_notV1, e_aNil, e_aCons, e_aCons1, e_aCons2, e_star, e_star1, e_star2, e_star3, e_lst, e_lst1, e_tup, e_tup1, e_call, e_call1, e_slot, e_slot1, e_sb, e_sb0, e_sb1, e_sb2, e_sb3, e_bs, e_bs1, e_bs2, e_lenV, e_lenV1, e_un, e_un1, e_def, e_def1, e_def2, e_def3, e_fix0, e_fix1, e_fix2, e_def4, e_def0, e_def01, e_jNil, e_jVal, e_jVal1, e_j2, e_jIo, e_jIo1, e_itD0, e_itD1, e_itD2, e_itD3, e_itJ0, e_itJ1, e_itJ2, e_itP0, e_itP1, e_itP2, e_setMany0, e_setMany1, e_nodup0, e_nodup1, e_noPart, e_part, e_part1, e_slice, e_slice1, e_slice2, e_slice3, e_lstRg, e_lstRg1, e_lstRg2, e_iSeq, e_iSeq1, e_iSeq2, e_iEn, e_iEn1, e_iEn2, e_iR1, e_iR11, e_iR2, e_iR21, e_yes, e_lc, e_lc1, e_lc2, e_wipe0, e_wipe1, e_back0, e_back1, e_back2, e_noneOwn0, e_noneOwn1, e_noneOwn2, e_noneOwn3, e_noneOwn4, e_name, e_set, e_tNil, e_tCons, e_tCons1, e_tTup, e_seq, e_seq1, e_seq2, e_seq3, e_seq4, e_seq5, e_next, e_break, e_cont, e_expr, e_expr1, e_ret, e_ret1, e_sIf, e_sIf1, e_sIf2, e_asg, e_asg1, e_asg2, e_aug, e_aug0, e_aug1, e_aug2, e_aug3, e_par, e_par1, e_par2, e_app, e_app0, e_app1, e_app2, e_setIx, e_setIx0, e_setIx1, e_setIx2, e_setIx3, e_setIx4, e_match, e_match1, e_mCase, e_mAny, e_raise, e_for, e_body, e_body1, e_body2, e_body3, e_body4, e_body5, e_outs0, e_outs1, e_outs2, e_start0, e_start1, e_addI, e_addL, e_addI2, e_sub, e_cmp, e_eqI, e_neI, e_eqB, e_isN0, e_isN1, e_isN2, e_isN3, e_notN0, e_notN1, e_notN2, e_notN3, e_int, e_intB, e_max, e_min, e_neg, e_bits, e_lenL, e_lenT, e_lenS, e_ixL, e_ixT, e_ixS, e_at0, e_at1, e_at2, e_map, e_lstOf, e_lstOfS, e_seqOf, e_seqOfT, e_seqOfS, e_isiIB, e_isiII, e_isiTT, e_isiLL, c, n1, b1, e, e1, zz8, zz9]
  | lev => cases hc
  | ino => cases hc
  | pre => cases hc
  | post => cases hc
theorem cutl_none (k : Kd) (h : Nat) (hc : isCut k = false ∨ h = 1) : m_cut_levels [.str (kn k), .int h] = .ok (.none, false) [] := by
  have c := cutIn k
  rcases hc with hc | hc
  · rw [hc] at c
    simp [m_cut_levels, b_cut_levels, e_tUnl, e_ext, e_ext0, e_ext1, e_ext2, e_dix, e_dix1, e_dix2, e_look, e_rev, e_rev1, e_lr1, e_lr11, e_isE1, e_isE2, e_isE3, e_isE4, e_isE5, e_isE6, e_try, e_try1, e_try2, e_eqAS, e_neAS, e_eqAI, e_neAI, e_bind_ok, e_bind_exc, e_bind_stk, e_var, e_var1, e_var2, e_move, e_move1, e_move2, e_C, e_fin1, e_bin, e_bin1, e_bin2, e_chain, e_chain1, e_chain2, e_chain3, e_chain4, e_chain5, e_if, e_if1, e_if2, e_tv, e_tv1, e_notT, e_notT1, e_andT, e_andT1, e_andT2, e_orT, e_orT1, e_orT2, e_andV, e_andV1, e_andV2, e_orV, e_orV1, e_orV2, e_notV, e_notV1, e_aNil, e_aCons, e_aCons1, e_aCons2, e_star, e_star1, e_star2, e_star3, e_lst, e_lst1, e_tup, e_tup1, e_call, e_call1, e_slot, e_slot1, e_sb, e_sb0, e_sb1, e_sb2, e_sb3, e_bs, e_bs1, e_bs2, e_lenV, e_lenV1, e_un, e_un1, e_def, e_def1, e_def2, e_def3, e_fix0, e_fix1, e_fix2, e_def4, e_def0, e_def01, e_jNil, e_jVal, e_jVal1, e_j2, e_jIo, e_jIo1, e_itD0, e_itD1, e_itD2, e_itD3, e_itJ0, e_itJ1, e_itJ2, e_itP0, e_itP1, e_itP2, e_setMany0, e_setMany1, e_nodup0, e_nodup1, e_noPart, e_part, e_part1, e_slice, e_slice1, e_slice2, e_slice3, e_lstRg, e_lstRg1, e_lstRg2, e_iSeq, e_iSeq1, e_iSeq2, e_iEn, e_iEn1, e_iEn2, e_iR1, e_iR11, e_iR2, e_iR21, e_yes, e_lc, e_lc1, e_lc2, e_wipe0, e_wipe1, e_back0, e_back1, e_back2, e_noneOwn0, e_noneOwn1, e_noneOwn2, e_noneOwn3, e_noneOwn4, e_name, e_set, e_tNil, e_tCons, e_tCons1, e_tTup, e_seq, e_seq1, e_seq2, e_seq3, e_seq4, e_seq5, e_next, e_break, e_cont, e_expr, e_expr1, e_ret, e_ret1, e_sIf, e_sIf1, e_sIf2, e_asg, e_asg1, e_asg2, e_aug, e_aug0, e_aug1, e_aug2, e_aug3, e_par, e_par1, e_par2, e_app, e_app0, e_app1, e_app2, e_setIx, e_setIx0, e_setIx1, e_setIx2, e_setIx3, e_setIx4, e_match, e_match1, e_mCase, e_mAny, e_raise, e_for, e_body, e_body1, e_body2, e_body3, e_body4, e_body5, e_outs0, e_outs1, e_outs2, e_start0, e_start1, e_addI, e_addL, e_addI2, e_sub, e_cmp, e_eqI, e_neI, e_eqB, e_isN0, e_isN1, e_isN2, e_isN3, e_notN0, e_notN1, e_notN2, e_notN3, e_int, e_intB, e_max, e_min, e_neg, e_bits, e_lenL, e_lenT, e_lenS, e_ixL, e_ixT, e_ixS, e_at0, e_at1, e_at2, e_map, e_lstOf, e_lstOfS, e_seqOf, e_seqOfT, e_seqOfS, e_isiIB, e_isiII, e_isiTT, e_isiLL, c]
  · subst hc
    cases hk : isCut k <;> rw [hk] at c <;> simp [m_cut_levels, b_cut_levels, e_tUnl, e_ext, e_ext0, e_ext1, e_ext2, e_dix, e_dix1, e_dix2, e_look, e_rev, e_rev1, e_lr1, e_lr11, e_isE1, e_isE2, e_isE3, e_isE4, e_isE5, e_isE6, e_try, e_try1, e_try2, e_eqAS, e_neAS, e_eqAI, e_neAI, e_bind_ok, e_bind_exc, e_bind_stk, e_var, e_var1, e_var2, e_move, e_move1, e_move2, e_C, e_fin1, e_bin, e_bin1, e_bin2, e_chain, e_chain1, e_chain2, e_chain3, e_chain4, e_chain5, e_if, e_if1, e_if2, e_tv, e_tv1, e_notT, e_notT1, e_andT, e_andT1, e_andT2, e_orT, e_orT1, e_orT2, e_andV, e_andV1, e_andV2, e_orV, e_orV1, e_orV2, e_notV, e_notV1, e_aNil, e_aCons, e_aCons1, e_aCons2, e_star, e_star1, e_star2, e_star3, e_lst, e_lst1, e_tup, e_tup1, e_call, e_call1, e_slot, e_slot1, e_sb, e_sb0, e_sb1, e_sb2, e_sb3, e_bs, e_bs1, e_bs2, e_lenV, e_lenV1, e_un, e_un1, e_def, e_def1, e_def2, e_def3, e_fix0, e_fix1, e_fix2, e_def4, e_def0, e_def01, e_jNil, e_jVal, e_jVal1, e_j2, e_jIo, e_jIo1, e_itD0, e_itD1, e_itD2, e_itD3, e_itJ0, e_itJ1, e_itJ2, e_itP0, e_itP1, e_itP2, e_setMany0, e_setMany1, e_nodup0, e_nodup1, e_noPart, e_part, e_part1, e_slice, e_slice1, e_slice2, e_slice3, e_lstRg, e_lstRg1, e_lstRg2, e_iSeq, e_iSeq1, e_iSeq2, e_iEn, e_iEn1, e_iEn2, e_iR1, e_iR11, e_iR2, e_iR21, e_yes, e_lc, e_lc1, e_lc2, e_wipe0, e_wipe1, e_back0, e_back1, e_back2, e_noneOwn0, e_noneOwn1, e_noneOwn2, e_noneOwn3, e_noneOwn4, e_name, e_set, e_tNil, e_tCons, e_tCons1, e_tTup, e_seq, e_seq1, e_seq2, e_seq3, e_seq4, e_seq5, e_next, e_break, e_cont, e_expr, e_expr1, e_ret, e_ret1, e_sIf, e_sIf1, e_sIf2, e_asg, e_asg1, e_asg2, e_aug, e_aug0, e_aug1, e_aug2, e_aug3, e_par, e_par1, e_par2, e_app, e_app0, e_app1, e_app2, e_setIx, e_setIx0, e_setIx1, e_setIx2, e_setIx3, e_setIx4, e_match, e_match1, e_mCase, e_mAny, e_raise, e_for, e_body, e_body1, e_body2, e_body3, e_body4, e_body5, e_outs0, e_outs1, e_outs2, e_start0, e_start1, e_addI, e_addL, e_addI2, e_sub, e_cmp, e_eqI, e_neI, e_eqB, e_isN0, e_isN1, e_isN2, e_isN3, e_notN0, e_notN1, e_notN2, e_notN3, e_int, e_intB, e_max, e_min, e_neg, e_bits, e_lenL, e_lenT, e_lenS, e_ixL, e_ixT, e_ixS, e_at0, e_at1, e_at2, e_map, e_lstOf, e_lstOfS, e_seqOf, e_seqOfT, e_seqOfS, e_isiIB, e_isiII, e_isiTT, e_isiLL, c]
end SM

namespace SM
open PySem PySem.Spec DL
open PyProof.Rows hiding St
theorem wsD_app (a b : Nat) (w : Nat → Int) : wsD (a + b) w = wsD a w ++ wsD b (fun i => w (a + i)) := by
  unfold wsD
  rw [List.range_add, List.map_append, List.map_map]
  rfl
theorem wsD_congr (d : Nat) {w w' : Nat → Int} (h : ∀ i, i < d → w i = w' i) : wsD d w = wsD d w' := by
  unfold wsD
  refine List.map_congr_left fun i hi => ?_
  rw [h i (List.mem_range.mp hi)]
theorem sums_cut (k : Kd) (hc : isCut k = true) (h d : Nat) (hd : d < h) (hh : h ≤ 100) :
    m_sums_of [.str (kn k), .int h, .int d] = .ok (.tuple [.int (num k h d : Nat), .list (wsD d (wz k h d))], true) [] := by
  have c := cutIn k
  rw [hc] at c
  have l2 : 2 ≤ LINE := by show 2 ≤ 16777216; omega
  have l4 : 4 ≤ LINE := by show 4 ≤ 16777216; omega
  have key := whD_inv (gt := wt_sums_of_1) (body := wb_sums_of_1)
    (n := h - 1) (δ := [some (false, .str (kn k)), some (false, .int h), some (false, .int d), some (false, .int 0), some (true, .list []), some (false, .int h), some (false, .int d), none, none, none])
    (fun m δ => ∃ (lf nm : Nat) (acc : List D) (x7 x8 : Option (Bool × D)), δ = [some (false, .str (kn k)), some (false, .int h), some (false, .int d), some (false, .int nm), some (true, .list acc), some (false, .int ((m + 1 : Nat) : Int)), some (false, .int lf), x7, x8, none]
      ∧ lf < m + 1 ∧ m + 1 ≤ 100 ∧ nm + num k (m + 1) lf = num k h d ∧ acc.length + lf = d ∧ acc ++ wsD lf (wz k (m + 1) lf) = wsD d (wz k h d))
    ⟨d, 0, [], none, none, by rw [show h - 1 + 1 = h by omega]; rfl, by omega, by omega, by rw [show h - 1 + 1 = h by omega]; omega, by simp, by rw [show h - 1 + 1 = h by omega]; rfl⟩ ?_ 200 (by omega)
  · obtain ⟨δ', h1, lf, nm, acc, x7, x8, h2, h3, h4, h5, h6⟩ := key
    have e0 : lf = 0 := by omega
    subst e0
    have e1 : num k (0 + 1) 0 = 0 := num_1 hc (by omega)
    rw [e1] at h5
    have e2 : wsD 0 (wz k (0 + 1) 0) = [] := rfl
    obtain ⟨h6, h7⟩ := h6
    rw [e2, List.append_nil] at h7
    have e3 : nm = num k h d := by omega
    subst e3
    subst h2
    subst h7
    have w : sWhile 200 wt_sums_of_1 wb_sums_of_1 _ = _ := h1
    simp [m_sums_of, b_sums_of, e_retT, e_retT1, e_retT2, e_retC, e_retC1, e_retC2, e_s4, e_s41, e_s42, e_s43, e_tUnl, e_ext, e_ext0, e_ext1, e_ext2, e_dix, e_dix1, e_dix2, e_look, e_rev, e_rev1, e_lr1, e_lr11, e_isE1, e_isE2, e_isE3, e_isE4, e_isE5, e_isE6, e_try, e_try1, e_try2, e_eqAS, e_neAS, e_eqAI, e_neAI, e_bind_ok, e_bind_exc, e_bind_stk, e_var, e_var1, e_var2, e_move, e_move1, e_move2, e_C, e_fin1, e_bin, e_bin1, e_bin2, e_chain, e_chain1, e_chain2, e_chain3, e_chain4, e_chain5, e_if, e_if1, e_if2, e_tv, e_tv1, e_notT, e_notT1, e_andT, e_andT1, e_andT2, e_orT, e_orT1, e_orT2, e_andV, e_andV1, e_andV2, e_orV, e_orV1, e_orV2, e_notV, e_notV1, e_aNil, e_aCons, e_aCons1, e_aCons2, e_star, e_star1, e_star2, e_star3, e_lst, e_lst1, e_tup, e_tup1, e_call, e_call1, e_slot, e_slot1, e_sb, e_sb0, e_sb1, e_sb2, e_sb3, e_bs, e_bs1, e_bs2, e_lenV, e_lenV1, e_un, e_un1, e_def, e_def1, e_def2, e_def3, e_fix0, e_fix1, e_fix2, e_def4, e_def0, e_def01, e_jNil, e_jVal, e_jVal1, e_j2, e_jIo, e_jIo1, e_itD0, e_itD1, e_itD2, e_itD3, e_itJ0, e_itJ1, e_itJ2, e_itP0, e_itP1, e_itP2, e_setMany0, e_setMany1, e_nodup0, e_nodup1, e_noPart, e_part, e_part1, e_slice, e_slice1, e_slice2, e_slice3, e_lstRg, e_lstRg1, e_lstRg2, e_iSeq, e_iSeq1, e_iSeq2, e_iEn, e_iEn1, e_iEn2, e_iR1, e_iR11, e_iR2, e_iR21, e_yes, e_lc, e_lc1, e_lc2, e_wipe0, e_wipe1, e_back0, e_back1, e_back2, e_noneOwn0, e_noneOwn1, e_noneOwn2, e_noneOwn3, e_noneOwn4, e_name, e_set, e_tNil, e_tCons, e_tCons1, e_tTup, e_seq, e_seq1, e_seq2, e_seq3, e_seq4, e_seq5, e_next, e_break, e_cont, e_expr, e_expr1, e_ret, e_ret1, e_sIf, e_sIf1, e_sIf2, e_asg, e_asg1, e_asg2, e_aug, e_aug0, e_aug1, e_aug2, e_aug3, e_par, e_par1, e_par2, e_app, e_app0, e_app1, e_app2, e_setIx, e_setIx0, e_setIx1, e_setIx2, e_setIx3, e_setIx4, e_match, e_match1, e_mCase, e_mAny, e_raise, e_for, e_body, e_body1, e_body2, e_body3, e_body4, e_body5, e_outs0, e_outs1, e_outs2, e_start0, e_start1, e_addI, e_addL, e_addI2, e_sub, e_cmp, e_eqI, e_neI, e_eqB, e_isN0, e_isN1, e_isN2, e_isN3, e_notN0, e_notN1, e_notN2, e_notN3, e_int, e_intB, e_max, e_min, e_neg, e_bits, e_lenL, e_lenT, e_lenS, e_ixL, e_ixT, e_ixS, e_at0, e_at1, e_at2, e_map, e_lstOf, e_lstOfS, e_seqOf, e_seqOfT, e_seqOfS, e_isiIB, e_isiII, e_isiTT, e_isiLL, c, l2, l4, w]
  · rintro m δ hm ⟨lf, nm, acc, x7, x8, rfl, q1, q2, q3, q4, q5⟩
    cases m with
    | zero =>
      refine .inl ⟨_, ?_, ⟨lf, nm, acc, x7, x8, rfl, q1, q2, q3, q4, q5⟩, rfl, rfl⟩
      simp [wt_sums_of_1, e_tUnl, e_ext, e_ext0, e_ext1, e_ext2, e_dix, e_dix1, e_dix2, e_look, e_rev, e_rev1, e_lr1, e_lr11, e_isE1, e_isE2, e_isE3, e_isE4, e_isE5, e_isE6, e_try, e_try1, e_try2, e_eqAS, e_neAS, e_eqAI, e_neAI, e_bind_ok, e_bind_exc, e_bind_stk, e_var, e_var1, e_var2, e_move, e_move1, e_move2, e_C, e_fin1, e_bin, e_bin1, e_bin2, e_chain, e_chain1, e_chain2, e_chain3, e_chain4, e_chain5, e_if, e_if1, e_if2, e_tv, e_tv1, e_notT, e_notT1, e_andT, e_andT1, e_andT2, e_orT, e_orT1, e_orT2, e_andV, e_andV1, e_andV2, e_orV, e_orV1, e_orV2, e_notV, e_notV1, e_aNil, e_aCons, e_aCons1, e_aCons2, e_star, e_star1, e_star2, e_star3, e_lst, e_lst1, e_tup, e_tup1, e_call, e_call1, e_slot, e_slot1, e_sb, e_sb0, e_sb1, e_sb2, e_sb3, e_bs, e_bs1, e_bs2, e_lenV, e_lenV1, e_un, e_un1, e_def, e_def1, e_def2, e_def3, e_fix0, e_fix1, e_fix2, e_def4, e_def0, e_def01, e_jNil, e_jVal, e_jVal1, e_j2, e_jIo, e_jIo1, e_itD0, e_itD1, e_itD2, e_itD3, e_itJ0, e_itJ1, e_itJ2, e_itP0, e_itP1, e_itP2, e_setMany0, e_setMany1, e_nodup0, e_nodup1, e_noPart, e_part, e_part1, e_slice, e_slice1, e_slice2, e_slice3, e_lstRg, e_lstRg1, e_lstRg2, e_iSeq, e_iSeq1, e_iSeq2, e_iEn, e_iEn1, e_iEn2, e_iR1, e_iR11, e_iR2, e_iR21, e_yes, e_lc, e_lc1, e_lc2, e_wipe0, e_wipe1, e_back0, e_back1, e_back2, e_noneOwn0, e_noneOwn1, e_noneOwn2, e_noneOwn3, e_noneOwn4, e_name, e_set, e_tNil, e_tCons, e_tCons1, e_tTup, e_seq, e_seq1, e_seq2, e_seq3, e_seq4, e_seq5, e_next, e_break, e_cont, e_expr, e_expr1, e_ret, e_ret1, e_sIf, e_sIf1, e_sIf2, e_asg, e_asg1, e_asg2, e_aug, e_aug0, e_aug1, e_aug2, e_aug3, e_par, e_par1, e_par2, e_app, e_app0, e_app1, e_app2, e_setIx, e_setIx0, e_setIx1, e_setIx2, e_setIx3, e_setIx4, e_match, e_match1, e_mCase, e_mAny, e_raise, e_for, e_body, e_body1, e_body2, e_body3, e_body4, e_body5, e_outs0, e_outs1, e_outs2, e_start0, e_start1, e_addI, e_addL, e_addI2, e_sub, e_cmp, e_eqI, e_neI, e_eqB, e_isN0, e_isN1, e_isN2, e_isN3, e_notN0, e_notN1, e_notN2, e_notN3, e_int, e_intB, e_max, e_min, e_neg, e_bits, e_lenL, e_lenT, e_lenS, e_ixL, e_ixT, e_ixS, e_at0, e_at1, e_at2, e_map, e_lstOf, e_lstOfS, e_seqOf, e_seqOfT, e_seqOfS, e_isiIB, e_isiII, e_isiTT, e_isiLL]
    | succ m =>
      refine .inr ⟨m, [some (false, .str (kn k)), some (false, .int h), some (false, .int d), some (false, .int nm), some (true, .list acc), some (false, .int ((m + 1 + 1 : Nat) : Int)), some (false, .int lf), x7, x8, none], ?_⟩
      obtain ⟨t1, t2⟩ := topOf_b k (m + 1 + 1) (by omega)
      have cl := cutl k hc (m + 1 + 1) (by omega) q2
      have cl' : m_cut_levels [.str (kn k), .int ((m + 1 + 1 : Nat) : Int)] = .ok (.int (topOf k (m + 1 + 1) : Nat), false) [] := cl
      have g1 : wt_sums_of_1 [some (false, .str (kn k)), some (false, .int h), some (false, .int d), some (false, .int nm), some (true, .list acc), some (false, .int ((m + 1 + 1 : Nat) : Int)), some (false, .int lf), x7, x8, none] = .ok true [some (false, .str (kn k)), some (false, .int h), some (false, .int d), some (false, .int nm), some (true, .list acc), some (false, .int ((m + 1 + 1 : Nat) : Int)), some (false, .int lf), x7, x8, none] := by
        have c1 : (1 : Int) < ((m + 1 + 1 : Nat) : Int) := by omega
        generalize ((m + 1 + 1 : Nat) : Int) = z at *
        simp [wt_sums_of_1, e_tUnl, e_ext, e_ext0, e_ext1, e_ext2, e_dix, e_dix1, e_dix2, e_look, e_rev, e_rev1, e_lr1, e_lr11, e_isE1, e_isE2, e_isE3, e_isE4, e_isE5, e_isE6, e_try, e_try1, e_try2, e_eqAS, e_neAS, e_eqAI, e_neAI, e_bind_ok, e_bind_exc, e_bind_stk, e_var, e_var1, e_var2, e_move, e_move1, e_move2, e_C, e_fin1, e_bin, e_bin1, e_bin2, e_chain, e_chain1, e_chain2, e_chain3, e_chain4, e_chain5, e_if, e_if1, e_if2, e_tv, e_tv1, e_notT, e_notT1, e_andT, e_andT1, e_andT2, e_orT, e_orT1, e_orT2, e_andV, e_andV1, e_andV2, e_orV, e_orV1, e_orV2, e_notV, e_notV1, e_aNil, e_aCons, e_aCons1, e_aCons2, e_star, e_star1, e_star2, e_star3, e_lst, e_lst1, e_tup, e_tup1, e_call, e_call1, e_slot, e_slot1, e_sb, e_sb0, e_sb1, e_sb2, e_sb3, e_bs, e_bs1, e_bs2, e_lenV, e_lenV1, e_un, e_un1, e_def, e_def1, e_def2, e_def3, e_fix0, e_fix1, e_fix2, e_def4, e_def0, e_def01, e_jNil, e_jVal, e_jVal1, e_j2, e_jIo, e_jIo1, e_itD0, e_itD1, e_itD2, e_itD3, e_itJ0, e_itJ1, e_itJ2, e_itP0, e_itP1, e_itP2, e_setMany0, e_setMany1, e_nodup0, e_nodup1, e_noPart, e_part, e_part1, e_slice, e_slice1, e_slice2, e_slice3, e_lstRg, e_lstRg1, e_lstRg2, e_iSeq, e_iSeq1, e_iSeq2, e_iEn, e_iEn1, e_iEn2, e_iR1, e_iR11, e_iR2, e_iR21, e_yes, e_lc, e_lc1, e_lc2, e_wipe0, e_wipe1, e_back0, e_back1, e_back2, e_noneOwn0, e_noneOwn1, e_noneOwn2, e_noneOwn3, e_noneOwn4, e_name, e_set, e_tNil, e_tCons, e_tCons1, e_tTup, e_seq, e_seq1, e_seq2, e_seq3, e_seq4, e_seq5, e_next, e_break, e_cont, e_expr, e_expr1, e_ret, e_ret1, e_sIf, e_sIf1, e_sIf2, e_asg, e_asg1, e_asg2, e_aug, e_aug0, e_aug1, e_aug2, e_aug3, e_par, e_par1, e_par2, e_app, e_app0, e_app1, e_app2, e_setIx, e_setIx0, e_setIx1, e_setIx2, e_setIx3, e_setIx4, e_match, e_match1, e_mCase, e_mAny, e_raise, e_for, e_body, e_body1, e_body2, e_body3, e_body4, e_body5, e_outs0, e_outs1, e_outs2, e_start0, e_start1, e_addI, e_addL, e_addI2, e_sub, e_cmp, e_eqI, e_neI, e_eqB, e_isN0, e_isN1, e_isN2, e_isN3, e_notN0, e_notN1, e_notN2, e_notN3, e_int, e_intB, e_max, e_min, e_neg, e_bits, e_lenL, e_lenT, e_lenS, e_ixL, e_ixT, e_ixS, e_at0, e_at1, e_at2, e_map, e_lstOf, e_lstOfS, e_seqOf, e_seqOfT, e_seqOfS, e_isiIB, e_isiII, e_isiTT, e_isiLL, c1]
      by_cases ct : lf < topOf k (m + 1 + 1)
      · refine ⟨[some (false, .str (kn k)), some (false, .int h), some (false, .int d), some (false, .int nm), some (true, .list acc), some (false, .int ((topOf k (m + 1 + 1) - 1 + 1 : Nat) : Int)), some (false, .int lf), some (false, .int (topOf k (m + 1 + 1) : Nat)), x8, none], rfl, g1, ?_, topOf k (m + 1 + 1) - 1, by omega, ?_⟩
        · rw [show topOf k (m + 1 + 1) - 1 + 1 = topOf k (m + 1 + 1) by omega]
          have c1 : (lf : Int) < (topOf k (m + 1 + 1) : Nat) := by omega
          generalize ((topOf k (m + 1 + 1) : Nat) : Int) = T at *
          generalize ((m + 1 + 1 : Nat) : Int) = z at *
          simp [wb_sums_of_1, e_tUnl, e_ext, e_ext0, e_ext1, e_ext2, e_dix, e_dix1, e_dix2, e_look, e_rev, e_rev1, e_lr1, e_lr11, e_isE1, e_isE2, e_isE3, e_isE4, e_isE5, e_isE6, e_try, e_try1, e_try2, e_eqAS, e_neAS, e_eqAI, e_neAI, e_bind_ok, e_bind_exc, e_bind_stk, e_var, e_var1, e_var2, e_move, e_move1, e_move2, e_C, e_fin1, e_bin, e_bin1, e_bin2, e_chain, e_chain1, e_chain2, e_chain3, e_chain4, e_chain5, e_if, e_if1, e_if2, e_tv, e_tv1, e_notT, e_notT1, e_andT, e_andT1, e_andT2, e_orT, e_orT1, e_orT2, e_andV, e_andV1, e_andV2, e_orV, e_orV1, e_orV2, e_notV, e_notV1, e_aNil, e_aCons, e_aCons1, e_aCons2, e_star, e_star1, e_star2, e_star3, e_lst, e_lst1, e_tup, e_tup1, e_call, e_call1, e_slot, e_slot1, e_sb, e_sb0, e_sb1, e_sb2, e_sb3, e_bs, e_bs1, e_bs2, e_lenV, e_lenV1, e_un, e_un1, e_def, e_def1, e_def2, e_def3, e_fix0, e_fix1, e_fix2, e_def4, e_def0, e_def01, e_jNil, e_jVal, e_jVal1, e_j2, e_jIo, e_jIo1, e_itD0, e_itD1, e_itD2, e_itD3, e_itJ0, e_itJ1, e_itJ2, e_itP0, e_itP1, e_itP2, e_setMany0, e_setMany1, e_nodup0, e_nodup1, e_noPart, e_part, e_part1, e_slice, e_slice1, e_slice2, e_slice3, e_lstRg, e_lstRg1, e_lstRg2, e_iSeq, e_iSeq1, e_iSeq2, e_iEn, e_iEn1, e_iEn2, e_iR1, e_iR11, e_iR2, e_iR21, e_yes, e_lc, e_lc1, e_lc2, e_wipe0, e_wipe1, e_back0, e_back1, e_back2, e_noneOwn0, e_noneOwn1, e_noneOwn2, e_noneOwn3, e_noneOwn4, e_name, e_set, e_tNil, e_tCons, e_tCons1, e_tTup, e_seq, e_seq1, e_seq2, e_seq3, e_seq4, e_seq5, e_next, e_break, e_cont, e_expr, e_expr1, e_ret, e_ret1, e_sIf, e_sIf1, e_sIf2, e_asg, e_asg1, e_asg2, e_aug, e_aug0, e_aug1, e_aug2, e_aug3, e_par, e_par1, e_par2, e_app, e_app0, e_app1, e_app2, e_setIx, e_setIx0, e_setIx1, e_setIx2, e_setIx3, e_setIx4, e_match, e_match1, e_mCase, e_mAny, e_raise, e_for, e_body, e_body1, e_body2, e_body3, e_body4, e_body5, e_outs0, e_outs1, e_outs2, e_start0, e_start1, e_addI, e_addL, e_addI2, e_sub, e_cmp, e_eqI, e_neI, e_eqB, e_isN0, e_isN1, e_isN2, e_isN3, e_notN0, e_notN1, e_notN2, e_notN3, e_int, e_intB, e_max, e_min, e_neg, e_bits, e_lenL, e_lenT, e_lenS, e_ixL, e_ixT, e_ixS, e_at0, e_at1, e_at2, e_map, e_lstOf, e_lstOfS, e_seqOf, e_seqOfT, e_seqOfS, e_isiIB, e_isiII, e_isiTT, e_isiLL, cl', c1]
        · refine ⟨lf, nm, acc, _, _, rfl, by omega, by omega, ?_, q4, ?_⟩
          · rw [show topOf k (m + 1 + 1) - 1 + 1 = topOf k (m + 1 + 1) by omega, ← num_t hc (by omega) ct]
            exact q3
          · rw [show topOf k (m + 1 + 1) - 1 + 1 = topOf k (m + 1 + 1) by omega, ← q5]
            congr 1
            exact wsD_congr _ fun i _ => by unfold wz; rw [ws_t hc (by omega) ct]
      · generalize hT : topOf k (m + 1 + 1) = T at *
        have lfT : T ≤ lf := by omega
        refine ⟨[some (false, .str (kn k)), some (false, .int h), some (false, .int d), some (false, .int ((nm + (2 ^ T - 1) : Nat) : Int)), some (true, .list (acc ++ wsD T (fun i => (((2 ^ (m + 1 + 1 - T) - 1) * 2 ^ (T - 1 - i) : Nat) : Int)))), some (false, .int ((m + 1 - T + 1 : Nat) : Int)), some (false, .int ((lf - T : Nat) : Int)), some (false, .int (T : Nat)), some (false, .int ((2 ^ (m + 1 + 1 - T) - 1 : Nat) : Int)), none], rfl, g1, ?_, m + 1 - T, by omega, ?_⟩
        · have s1 : dShl (.int 1) (.int (((m + 1 + 1 : Nat) : Int) - (T : Int))) = some (.int (2 ^ (m + 1 + 1 - T)), false) := by
            rw [show ((m + 1 + 1 : Nat) : Int) - (T : Int) = ((m + 1 + 1 - T : Nat) : Int) by omega]
            exact shl1 _ (by omega)
          have s2 := shl1 T (by omega)
          have s3 := pw1 T
          have s4 := pw1 (m + 1 + 1 - T)
          have c1 : ¬ (lf : Int) < (T : Int) := by omega
          have r1 : rgOk 1 ((T : Int) + 1) = true := rg_ok _ _ (by omega) (by omega) (by omega) (by omega)
          have ln : (rgN 1 T).length = T := by simp [rgN]
          have lq : (wsD T (fun i => (((2 ^ (m + 1 + 1 - T) - 1) * 2 ^ (T - 1 - i) : Nat) : Int))).length = T := wsD_len _ _
          have l1 : T ≤ LINE := by show T ≤ 16777216; omega
          have l3 : acc.length + T ≤ LINE := by show _ ≤ 16777216; omega
          have l5 : acc.length ≤ LINE := by show _ ≤ 16777216; omega
          have e3 := lc_stepsN T (fun i => (((2 ^ (m + 1 + 1 - T) - 1) * 2 ^ (T - 1 - i) : Nat) : Int)) ce_sums_of_1
            [some (false, .str (kn k)), some (false, .int h), some (false, .int d), some (false, .int ((nm : Int) + (2 ^ T - 1))), some (false, .list acc), some (false, .int ((m + 1 + 1 : Nat) : Int)), some (false, .int lf), some (false, .int (T : Nat)), some (false, .int (2 ^ (m + 1 + 1 - T) - 1)), none] 9 (by
            intro i hi
            have e5 : dShl (.int (2 ^ (m + 1 + 1 - T) - 1)) (.int ((T : Int) - (1 + (i : Int)))) = some (.int (((2 ^ (m + 1 + 1 - T) - 1) * 2 ^ (T - 1 - i) : Nat) : Int), false) := by
              rw [← s4, dShl_ok (m + 1 + 1 - T) (by have := p2pos (m + 1 + 1 - T); omega) (by omega) (by omega) (by omega), show ((T : Int) - (1 + (i : Int))).toNat = T - 1 - i by omega, Int.natCast_mul, pw]
            generalize ((m + 1 + 1 : Nat) : Int) = z at *
            refine ⟨_, false, by simp [e_tUnl, e_ext, e_ext0, e_ext1, e_ext2, e_dix, e_dix1, e_dix2, e_look, e_rev, e_rev1, e_lr1, e_lr11, e_isE1, e_isE2, e_isE3, e_isE4, e_isE5, e_isE6, e_try, e_try1, e_try2, e_eqAS, e_neAS, e_eqAI, e_neAI, e_bind_ok, e_bind_exc, e_bind_stk, e_var, e_var1, e_var2, e_move, e_move1, e_move2, e_C, e_fin1, e_bin, e_bin1, e_bin2, e_chain, e_chain1, e_chain2, e_chain3, e_chain4, e_chain5, e_if, e_if1, e_if2, e_tv, e_tv1, e_notT, e_notT1, e_andT, e_andT1, e_andT2, e_orT, e_orT1, e_orT2, e_andV, e_andV1, e_andV2, e_orV, e_orV1, e_orV2, e_notV, e_notV1, e_aNil, e_aCons, e_aCons1, e_aCons2, e_star, e_star1, e_star2, e_star3, e_lst, e_lst1, e_tup, e_tup1, e_call, e_call1, e_slot, e_slot1, e_sb, e_sb0, e_sb1, e_sb2, e_sb3, e_bs, e_bs1, e_bs2, e_lenV, e_lenV1, e_un, e_un1, e_def, e_def1, e_def2, e_def3, e_fix0, e_fix1, e_fix2, e_def4, e_def0, e_def01, e_jNil, e_jVal, e_jVal1, e_j2, e_jIo, e_jIo1, e_itD0, e_itD1, e_itD2, e_itD3, e_itJ0, e_itJ1, e_itJ2, e_itP0, e_itP1, e_itP2, e_setMany0, e_setMany1, e_nodup0, e_nodup1, e_noPart, e_part, e_part1, e_slice, e_slice1, e_slice2, e_slice3, e_lstRg, e_lstRg1, e_lstRg2, e_iSeq, e_iSeq1, e_iSeq2, e_iEn, e_iEn1, e_iEn2, e_iR1, e_iR11, e_iR2, e_iR21, e_yes, e_lc, e_lc1, e_lc2, e_wipe0, e_wipe1, e_back0, e_back1, e_back2, e_noneOwn0, e_noneOwn1, e_noneOwn2, e_noneOwn3, e_noneOwn4, e_name, e_set, e_tNil, e_tCons, e_tCons1, e_tTup, e_seq, e_seq1, e_seq2, e_seq3, e_seq4, e_seq5, e_next, e_break, e_cont, e_expr, e_expr1, e_ret, e_ret1, e_sIf, e_sIf1, e_sIf2, e_asg, e_asg1, e_asg2, e_aug, e_aug0, e_aug1, e_aug2, e_aug3, e_par, e_par1, e_par2, e_app, e_app0, e_app1, e_app2, e_setIx, e_setIx0, e_setIx1, e_setIx2, e_setIx3, e_setIx4, e_match, e_match1, e_mCase, e_mAny, e_raise, e_for, e_body, e_body1, e_body2, e_body3, e_body4, e_body5, e_outs0, e_outs1, e_outs2, e_start0, e_start1, e_addI, e_addL, e_addI2, e_sub, e_cmp, e_eqI, e_neI, e_eqB, e_isN0, e_isN1, e_isN2, e_isN3, e_notN0, e_notN1, e_notN2, e_notN3, e_int, e_intB, e_max, e_min, e_neg, e_bits, e_lenL, e_lenT, e_lenS, e_ixL, e_ixT, e_ixS, e_at0, e_at1, e_at2, e_map, e_lstOf, e_lstOfS, e_seqOf, e_seqOfT, e_seqOfS, e_isiIB, e_isiII, e_isiTT, e_isiLL]; rfl, by simp [ce_sums_of_1, e_tUnl, e_ext, e_ext0, e_ext1, e_ext2, e_dix, e_dix1, e_dix2, e_look, e_rev, e_rev1, e_lr1, e_lr11, e_isE1, e_isE2, e_isE3, e_isE4, e_isE5, e_isE6, e_try, e_try1, e_try2, e_eqAS, e_neAS, e_eqAI, e_neAI, e_bind_ok, e_bind_exc, e_bind_stk, e_var, e_var1, e_var2, e_move, e_move1, e_move2, e_C, e_fin1, e_bin, e_bin1, e_bin2, e_chain, e_chain1, e_chain2, e_chain3, e_chain4, e_chain5, e_if, e_if1, e_if2, e_tv, e_tv1, e_notT, e_notT1, e_andT, e_andT1, e_andT2, e_orT, e_orT1, e_orT2, e_andV, e_andV1, e_andV2, e_orV, e_orV1, e_orV2, e_notV, e_notV1, e_aNil, e_aCons, e_aCons1, e_aCons2, e_star, e_star1, e_star2, e_star3, e_lst, e_lst1, e_tup, e_tup1, e_call, e_call1, e_slot, e_slot1, e_sb, e_sb0, e_sb1, e_sb2, e_sb3, e_bs, e_bs1, e_bs2, e_lenV, e_lenV1, e_un, e_un1, e_def, e_def1, e_def2, e_def3, e_fix0, e_fix1, e_fix2, e_def4, e_def0, e_def01, e_jNil, e_jVal, e_jVal1, e_j2, e_jIo, e_jIo1, e_itD0, e_itD1, e_itD2, e_itD3, e_itJ0, e_itJ1, e_itJ2, e_itP0, e_itP1, e_itP2, e_setMany0, e_setMany1, e_nodup0, e_nodup1, e_noPart, e_part, e_part1, e_slice, e_slice1, e_slice2, e_slice3, e_lstRg, e_lstRg1, e_lstRg2, e_iSeq, e_iSeq1, e_iSeq2, e_iEn, e_iEn1, e_iEn2, e_iR1, e_iR11, e_iR2, e_iR21, e_yes, e_lc, e_lc1, e_lc2, e_wipe0, e_wipe1, e_back0, e_back1, e_back2, e_noneOwn0, e_noneOwn1, e_noneOwn2, e_noneOwn3, e_noneOwn4, e_name, e_set, e_tNil, e_tCons, e_tCons1, e_tTup, e_seq, e_seq1, e_seq2, e_seq3, e_seq4, e_seq5, e_next, e_break, e_cont, e_expr, e_expr1, e_ret, e_ret1, e_sIf, e_sIf1, e_sIf2, e_asg, e_asg1, e_asg2, e_aug, e_aug0, e_aug1, e_aug2, e_aug3, e_par, e_par1, e_par2, e_app, e_app0, e_app1, e_app2, e_setIx, e_setIx0, e_setIx1, e_setIx2, e_setIx3, e_setIx4, e_match, e_match1, e_mCase, e_mAny, e_raise, e_for, e_body, e_body1, e_body2, e_body3, e_body4, e_body5, e_outs0, e_outs1, e_outs2, e_start0, e_start1, e_addI, e_addL, e_addI2, e_sub, e_cmp, e_eqI, e_neI, e_eqB, e_isN0, e_isN1, e_isN2, e_isN3, e_notN0, e_notN1, e_notN2, e_notN3, e_int, e_intB, e_max, e_min, e_neg, e_bits, e_lenL, e_lenT, e_lenS, e_ixL, e_ixT, e_ixS, e_at0, e_at1, e_at2, e_map, e_lstOf, e_lstOfS, e_seqOf, e_seqOfT, e_seqOfS, e_isiIB, e_isiII, e_isiTT, e_isiLL, e5], by simp [e_tUnl, e_ext, e_ext0, e_ext1, e_ext2, e_dix, e_dix1, e_dix2, e_look, e_rev, e_rev1, e_lr1, e_lr11, e_isE1, e_isE2, e_isE3, e_isE4, e_isE5, e_isE6, e_try, e_try1, e_try2, e_eqAS, e_neAS, e_eqAI, e_neAI, e_bind_ok, e_bind_exc, e_bind_stk, e_var, e_var1, e_var2, e_move, e_move1, e_move2, e_C, e_fin1, e_bin, e_bin1, e_bin2, e_chain, e_chain1, e_chain2, e_chain3, e_chain4, e_chain5, e_if, e_if1, e_if2, e_tv, e_tv1, e_notT, e_notT1, e_andT, e_andT1, e_andT2, e_orT, e_orT1, e_orT2, e_andV, e_andV1, e_andV2, e_orV, e_orV1, e_orV2, e_notV, e_notV1, e_aNil, e_aCons, e_aCons1, e_aCons2, e_star, e_star1, e_star2, e_star3, e_lst, e_lst1, e_tup, e_tup1, e_call, e_call1, e_slot, e_slot1, e_sb, e_sb0, e_sb1, e_sb2, e_sb3, e_bs, e_bs1, e_bs2, e_lenV, e_lenV1, e_un, e_un1, e_def, e_def1, e_def2, e_def3, e_fix0, e_fix1, e_fix2, e_def4, e_def0, e_def01, e_jNil, e_jVal, e_jVal1, e_j2, e_jIo, e_jIo1, e_itD0, e_itD1, e_itD2, e_itD3, e_itJ0, e_itJ1, e_itJ2, e_itP0, e_itP1, e_itP2, e_setMany0, e_setMany1, e_nodup0, e_nodup1, e_noPart, e_part, e_part1, e_slice, e_slice1, e_slice2, e_slice3, e_lstRg, e_lstRg1, e_lstRg2, e_iSeq, e_iSeq1, e_iSeq2, e_iEn, e_iEn1, e_iEn2, e_iR1, e_iR11, e_iR2, e_iR21, e_yes, e_lc, e_lc1, e_lc2, e_wipe0, e_wipe1, e_back0, e_back1, e_back2, e_noneOwn0, e_noneOwn1, e_noneOwn2, e_noneOwn3, e_noneOwn4, e_name, e_set, e_tNil, e_tCons, e_tCons1, e_tTup, e_seq, e_seq1, e_seq2, e_seq3, e_seq4, e_seq5, e_next, e_break, e_cont, e_expr, e_expr1, e_ret, e_ret1, e_sIf, e_sIf1, e_sIf2, e_asg, e_asg1, e_asg2, e_aug, e_aug0, e_aug1, e_aug2, e_aug3, e_par, e_par1, e_par2, e_app, e_app0, e_app1, e_app2, e_setIx, e_setIx0, e_setIx1, e_setIx2, e_setIx3, e_setIx4, e_match, e_match1, e_mCase, e_mAny, e_raise, e_for, e_body, e_body1, e_body2, e_body3, e_body4, e_body5, e_outs0, e_outs1, e_outs2, e_start0, e_start1, e_addI, e_addL, e_addI2, e_sub, e_cmp, e_eqI, e_neI, e_eqB, e_isN0, e_isN1, e_isN2, e_isN3, e_notN0, e_notN1, e_notN2, e_notN3, e_int, e_intB, e_max, e_min, e_neg, e_bits, e_lenL, e_lenT, e_lenS, e_ixL, e_ixT, e_ixS, e_at0, e_at1, e_at2, e_map, e_lstOf, e_lstOfS, e_seqOf, e_seqOfT, e_seqOfS, e_isiIB, e_isiII, e_isiTT, e_isiLL]⟩)
          have w1 : ((m + 1 - T + 1 : Nat) : Int) = ((m + 1 + 1 : Nat) : Int) - (T : Int) := by omega
          have w2 : ((lf - T : Nat) : Int) = (lf : Int) - (T : Int) := by omega
          have w3 : ((nm + (2 ^ T - 1) : Nat) : Int) = (nm : Int) + (2 ^ T - 1) := by omega
          rw [w1, w2, w3, s4]
          generalize wsD T (fun i => (((2 ^ (m + 1 + 1 - T) - 1) * 2 ^ (T - 1 - i) : Nat) : Int)) = WS at *
          generalize ((m + 1 + 1 : Nat) : Int) = z at *
          simp [wb_sums_of_1, e_tUnl, e_ext, e_ext0, e_ext1, e_ext2, e_dix, e_dix1, e_dix2, e_look, e_rev, e_rev1, e_lr1, e_lr11, e_isE1, e_isE2, e_isE3, e_isE4, e_isE5, e_isE6, e_try, e_try1, e_try2, e_eqAS, e_neAS, e_eqAI, e_neAI, e_bind_ok, e_bind_exc, e_bind_stk, e_var, e_var1, e_var2, e_move, e_move1, e_move2, e_C, e_fin1, e_bin, e_bin1, e_bin2, e_chain, e_chain1, e_chain2, e_chain3, e_chain4, e_chain5, e_if, e_if1, e_if2, e_tv, e_tv1, e_notT, e_notT1, e_andT, e_andT1, e_andT2, e_orT, e_orT1, e_orT2, e_andV, e_andV1, e_andV2, e_orV, e_orV1, e_orV2, e_notV, e_notV1, e_aNil, e_aCons, e_aCons1, e_aCons2, e_star, e_star1, e_star2, e_star3, e_lst, e_lst1, e_tup, e_tup1, e_call, e_call1, e_slot, e_slot1, e_sb, e_sb0, e_sb1, e_sb2, e_sb3, e_bs, e_bs1, e_bs2, e_lenV, e_lenV1, e_un, e_un1, e_def, e_def1, e_def2, e_def3, e_fix0, e_fix1, e_fix2, e_def4, e_def0, e_def01, e_jNil, e_jVal, e_jVal1, e_j2, e_jIo, e_jIo1, e_itD0, e_itD1, e_itD2, e_itD3, e_itJ0, e_itJ1, e_itJ2, e_itP0, e_itP1, e_itP2, e_setMany0, e_setMany1, e_nodup0, e_nodup1, e_noPart, e_part, e_part1, e_slice, e_slice1, e_slice2, e_slice3, e_lstRg, e_lstRg1, e_lstRg2, e_iSeq, e_iSeq1, e_iSeq2, e_iEn, e_iEn1, e_iEn2, e_iR1, e_iR11, e_iR2, e_iR21, e_yes, e_lc, e_lc1, e_lc2, e_wipe0, e_wipe1, e_back0, e_back1, e_back2, e_noneOwn0, e_noneOwn1, e_noneOwn2, e_noneOwn3, e_noneOwn4, e_name, e_set, e_tNil, e_tCons, e_tCons1, e_tTup, e_seq, e_seq1, e_seq2, e_seq3, e_seq4, e_seq5, e_next, e_break, e_cont, e_expr, e_expr1, e_ret, e_ret1, e_sIf, e_sIf1, e_sIf2, e_asg, e_asg1, e_asg2, e_aug, e_aug0, e_aug1, e_aug2, e_aug3, e_par, e_par1, e_par2, e_app, e_app0, e_app1, e_app2, e_setIx, e_setIx0, e_setIx1, e_setIx2, e_setIx3, e_setIx4, e_match, e_match1, e_mCase, e_mAny, e_raise, e_for, e_body, e_body1, e_body2, e_body3, e_body4, e_body5, e_outs0, e_outs1, e_outs2, e_start0, e_start1, e_addI, e_addL, e_addI2, e_sub, e_cmp, e_eqI, e_neI, e_eqB, e_isN0, e_isN1, e_isN2, e_isN3, e_notN0, e_notN1, e_notN2, e_notN3, e_int, e_intB, e_max, e_min, e_neg, e_bits, e_lenL, e_lenT, e_lenS, e_ixL, e_ixT, e_ixS, e_at0, e_at1, e_at2, e_map, e_lstOf, e_lstOfS, e_seqOf, e_seqOfT, e_seqOfS, e_isiIB, e_isiII, e_isiTT, e_isiLL, cl', c1, s1, s2, r1, ln, e3, l1, l3, l5, lq]
        · refine ⟨lf - T, _, _, _, _, rfl, by omega, by omega, ?_, ?_, ?_⟩
          · rw [num_b hc (by omega) (by omega)] at q3
            rw [hT] at q3
            rw [show m + 1 - T + 1 = m + 1 + 1 - T by omega]
            omega
          · rw [List.length_append, wsD_len]
            omega
          · rw [← q5, List.append_assoc]
            congr 1
            conv => rhs; rw [show lf = T + (lf - T) by omega]
            rw [wsD_app]
            rw [show T + (lf - T) = lf by omega]
            congr 1
            · exact wsD_congr _ fun i hi => by unfold wz; rw [ws_b1 hc (by omega) (by omega) (by omega), hT]
            · refine wsD_congr _ fun i hi => ?_
              unfold wz
              have z := ws_b2 (k := k) hc (h := m + 1 + 1) (d := lf) (i := T + i) (by omega) (by omega) (by omega)
              rw [hT, show T + i - T = i by omega, show m + 1 + 1 - T = m + 1 - T + 1 by omega] at z
              rw [z]
theorem sums_k (k : Kd) (h d : Nat) (hd : d < h) (hh : h ≤ 100) :
    m_sums_of [.str (kn k), .int h, .int d] = .ok (.tuple [.int (num k h d : Nat), .list (wsD d (wz k h d))], true) [] := by
  by_cases hc : isCut k = true
  · exact sums_cut k hc h d hd hh
  · have hc : isCut k = false := by simpa using hc
    have c := cutIn k
    rw [hc] at c
    simp [m_sums_of, b_sums_of, e_retT, e_retT1, e_retT2, e_retC, e_retC1, e_retC2, e_s4, e_s41, e_s42, e_s43, e_tUnl, e_ext, e_ext0, e_ext1, e_ext2, e_dix, e_dix1, e_dix2, e_look, e_rev, e_rev1, e_lr1, e_lr11, e_isE1, e_isE2, e_isE3, e_isE4, e_isE5, e_isE6, e_try, e_try1, e_try2, e_eqAS, e_neAS, e_eqAI, e_neAI, e_bind_ok, e_bind_exc, e_bind_stk, e_var, e_var1, e_var2, e_move, e_move1, e_move2, e_C, e_fin1, e_bin, e_bin1, e_bin2, e_chain, e_chain1, e_chain2, e_chain3, e_chain4, e_chain5, e_if, e_if1, e_if2, e_tv, e_tv1, e_notT, e_notT1, e_andT, e_andT1, e_andT2, e_orT, e_orT1, e_orT2, e_andV, e_andV1, e_andV2, e_orV, e_orV1, e_orV2, e_notV, e_notV1, e_aNil, e_aCons, e_aCons1, e_aCons2, e_star, e_star1, e_star2, e_star3, e_lst, e_lst1, e_tup, e_tup1, e_call, e_call1, e_slot, e_slot1, e_sb, e_sb0, e_sb1, e_sb2, e_sb3, e_bs, e_bs1, e_bs2, e_lenV, e_lenV1, e_un, e_un1, e_def, e_def1, e_def2, e_def3, e_fix0, e_fix1, e_fix2, e_def4, e_def0, e_def01, e_jNil, e_jVal, e_jVal1, e_j2, e_jIo, e_jIo1, e_itD0, e_itD1, e_itD2, e_itD3, e_itJ0, e_itJ1, e_itJ2, e_itP0, e_itP1, e_itP2, e_setMany0, e_setMany1, e_nodup0, e_nodup1, e_noPart, e_part, e_part1, e_slice, e_slice1, e_slice2, e_slice3, e_lstRg, e_lstRg1, e_lstRg2, e_iSeq, e_iSeq1, e_iSeq2, e_iEn, e_iEn1, e_iEn2, e_iR1, e_iR11, e_iR2, e_iR21, e_yes, e_lc, e_lc1, e_lc2, e_wipe0, e_wipe1, e_back0, e_back1, e_back2, e_noneOwn0, e_noneOwn1, e_noneOwn2, e_noneOwn3, e_noneOwn4, e_name, e_set, e_tNil, e_tCons, e_tCons1, e_tTup, e_seq, e_seq1, e_seq2, e_seq3, e_seq4, e_seq5, e_next, e_break, e_cont, e_expr, e_expr1, e_ret, e_ret1, e_sIf, e_sIf1, e_sIf2, e_asg, e_asg1, e_asg2, e_aug, e_aug0, e_aug1, e_aug2, e_aug3, e_par, e_par1, e_par2, e_app, e_app0, e_app1, e_app2, e_setIx, e_setIx0, e_setIx1, e_setIx2, e_setIx3, e_setIx4, e_match, e_match1, e_mCase, e_mAny, e_raise, e_for, e_body, e_body1, e_body2, e_body3, e_body4, e_body5, e_outs0, e_outs1, e_outs2, e_start0, e_start1, e_addI, e_addL, e_addI2, e_sub, e_cmp, e_eqI, e_neI, e_eqB, e_isN0, e_isN1, e_isN2, e_isN3, e_notN0, e_notN1, e_notN2, e_notN3, e_int, e_intB, e_max, e_min, e_neg, e_bits, e_lenL, e_lenT, e_lenS, e_ixL, e_ixT, e_ixS, e_at0, e_at1, e_at2, e_map, e_lstOf, e_lstOfS, e_seqOf, e_seqOfT, e_seqOfS, e_isiIB, e_isiII, e_isiTT, e_isiLL, c, plain_k k hc h d hd hh]
theorem spot_k (k : Kd) (h d n : Nat) (hd : d < h) (hh : h ≤ 100) : m_spot_of [.str (kn k), .int h, nd d n] = .ok (.int (sp k h d n : Nat), false) [] := by
  rw [spot_gen (kn k) h d n _ _ (sums_k k h d hd hh)]
  unfold sp wz
  rw [psum_N, Int.natCast_add]
end SM

namespace SM
open PySem PySem.Spec DL
open PyProof.Rows hiding St
theorem lE (n : Nat) (h : n ≤ 1000) : n ≤ LINE := by show n ≤ 16777216; omega
theorem l0 : 0 ≤ LINE := lE 0 (by omega)
theorem l1 : 1 ≤ LINE := lE 1 (by omega)
theorem l2 : 2 ≤ LINE := lE 2 (by omega)
theorem l3 : 3 ≤ LINE := lE 3 (by omega)
theorem l4 : 4 ≤ LINE := lE 4 (by omega)
theorem l5 : 5 ≤ LINE := lE 5 (by omega)
theorem l6 : 6 ≤ LINE := lE 6 (by omega)
theorem l7 : 7 ≤ LINE := lE 7 (by omega)
theorem l8 : 8 ≤ LINE := lE 8 (by omega)
theorem lc_rg (N l : Nat) (io : List Nat) (w : Nat → D) (ge : Sl → EV) (δ : Sl) (h : ∀ i : Nat, i < N → ∃ δ1 δ2 fr, gtName io l (.int i) false δ = some δ1 ∧ ge δ1 = .ok (w i, fr) δ2 ∧ wipeD δ2 [l] = δ) :
    lcD [l] (gtName io l) gYes ge (rgN 0 N) [] δ = .ok ((List.range N).map w) δ := by
  rw [lcD_map (fun x => match x with | .int k => w k.toNat | _ => .none) []]
  · rw [List.nil_append, rgN, List.map_map]
    congr 1
    refine List.map_congr_left fun i hi => ?_
    simp only [Function.comp]
    rw [show ((0 : Int) + (i : Int)).toNat = i by omega]
  · intro x hx
    simp only [rgN, List.mem_map, List.mem_range] at hx
    obtain ⟨i, hi, rfl⟩ := hx
    obtain ⟨δ1, δ2, fr, h1, h2, h3⟩ := h i hi
    refine ⟨δ1, δ1, δ2, fr, ?_, rfl, ?_, h3⟩
    · rw [Int.zero_add]; exact h1
    · dsimp only
      rw [show ((0 : Int) + (i : Int)).toNat = i by omega]
      exact h2
theorem nd_ix0 (d n : Nat) : dIx (nd d n) (.int 0) = some (.int d, false) := id rfl
theorem nd_ix1 (d n : Nat) : dIx (nd d n) (.int 1) = some (.int n, false) := id rfl
theorem nd_tup (d n : Nat) (gs : List D → Sl → Option Sl) (fr : Bool) (δ : Sl) : gtTup gs (nd d n) fr δ = gs [.int d, .int n] δ := id rfl
theorem nd_is (d n : Nat) : dIs (nd d n) .none = some (.bool false, false) := id rfl
theorem nd_isn (d n : Nat) : dIsN (nd d n) .none = some (.bool true, false) := id rfl
theorem nd_ne (d n : Nat) : dNeA (nd d n) (nd d n) = some (.bool false, false) := by
  have e : dNeA (nd d n) (nd d n) = some (.bool (!((d : Int) == d && ((n : Int) == n && true))), false) := id rfl
  rw [e]
  simp
theorem nd_ne2 (d n : Nat) : dNeA (.list [nd d n, nd d n]) (.list [nd d n, nd d n]) = some (.bool false, false) := by
  have e : dNeA (.list [nd d n, nd d n]) (.list [nd d n, nd d n]) = some (.bool (!(((d : Int) == d && ((n : Int) == n && true)) && (((d : Int) == d && ((n : Int) == n && true)) && true))), false) := id rfl
  rw [e]
  simp
theorem nd_in (d n : Nat) : dNotIn (nd d n) (.tuple [nd d (2 * (n / 2)), nd d (2 * (n / 2) + 1)]) = some (.bool false, false) := by
  have e : dNotIn (nd d n) (.tuple [nd d (2 * (n / 2)), nd d (2 * (n / 2) + 1)]) = some (.bool (!(((d : Int) == d && (((2 * (n / 2) : Nat) : Int) == n && true)) || (((d : Int) == d && (((2 * (n / 2) + 1 : Nat) : Int) == n && true)) || false))), false) := id rfl
  rw [e]
  have c : n = 2 * (n / 2) ∨ n = 2 * (n / 2) + 1 := by omega
  rcases c with c | c
  · have : (((2 * (n / 2) : Nat) : Int) == n) = true := by rw [← c]; simp
    rw [this]
    simp
  · have : (((2 * (n / 2) + 1 : Nat) : Int) == n) = true := by rw [← c]; simp
    rw [this]
    simp
theorem at_nat {α : Type} {xs : List α} {k : Nat} {x : α} (h : xs[k]? = some x) : L2.atI xs (k : Int) = some x := by
  have hk : k < xs.length := (List.getElem?_eq_some_iff.mp h).1
  have c : (0 : Int) ≤ k := by omega
  have c2 : (k : Int) < xs.length := by omega
  unfold L2.atI L2.ixN
  rw [if_pos c, if_pos c2]
  simpa using h
end SM

namespace SM
open PySem PySem.Spec DL
open PyProof.Rows hiding St
theorem sN_dbl (ws : Nat → Nat) (g b : Nat) (hb : b < 2) (j : Nat) : ∀ i, i ≤ j → sN (j + 1) (2 * g + b) ws i = sN j g ws i
  | 0, _ => rfl
  | i + 1, h => by
    unfold sN
    rw [sN_dbl ws g b hb j i (by omega), show j + 1 - 1 - i = (j - 1 - i) + 1 by omega, bt_dbl g b _ hb]
theorem sN_last (ws : Nat → Nat) (d n : Nat) : sN (d + 1) n ws (d + 1) = sN d (n / 2) ws d + n % 2 * ws d := by
  have e : n = 2 * (n / 2) + n % 2 := by omega
  have a := sN_dbl ws (n / 2) (n % 2) (by omega) d d (Nat.le_refl _)
  rw [← e] at a
  show sN (d + 1) n ws d + bt n (d + 1 - 1 - d) * ws d = _
  rw [a, show d + 1 - 1 - d = 0 by omega]
  have b : bt n 0 = n % 2 := by unfold bt; rw [Nat.pow_zero, Nat.div_one]
  rw [b]
theorem par_pre (h d n : Nat) (hd : d + 1 < h) : sp .pre h (d + 1) n = sp .pre h d (n / 2) + 1 + (2 ^ (h - (d + 1)) - 1) * (n % 2) := by
  unfold sp
  rw [show ws .pre h (d + 1) = ws .pre h d from rfl, sN_last, show num .pre h (d + 1) = d + 1 from rfl, show num .pre h d = d from rfl, show ws .pre h d d = 2 ^ (h - 1 - d) - 1 from rfl, show h - 1 - d = h - (d + 1) by omega, Nat.mul_comm (n % 2)]
  omega
theorem par_ino (h d n : Nat) (hd : d + 1 < h) : sp .ino h (d + 1) n + 2 ^ (h - 1 - (d + 1)) = sp .ino h d (n / 2) + 2 * 2 ^ (h - 1 - (d + 1)) * (n % 2) := by
  have p : 2 ^ (h - 1 - d) = 2 ^ (h - 1 - (d + 1)) * 2 := p2s (by omega)
  have q := p2pos (h - 1 - (d + 1))
  unfold sp
  rw [show ws .ino h (d + 1) = ws .ino h d from rfl, sN_last, show num .ino h (d + 1) = 2 ^ (h - 1 - (d + 1)) - 1 from rfl, show num .ino h d = 2 ^ (h - 1 - d) - 1 from rfl, show ws .ino h d d = 2 ^ (h - 1 - d) from rfl, p, Nat.mul_comm (n % 2), Nat.mul_comm _ 2]
  omega
theorem par_post (h d n : Nat) (hd : d + 1 < h) : sp .post h (d + 1) n + 1 + (2 ^ (h - (d + 1)) - 1) = sp .post h d (n / 2) + (2 ^ (h - (d + 1)) - 1) * (n % 2) := by
  have p : 2 ^ (h - d) = 2 ^ (h - (d + 1)) * 2 := p2s (by omega)
  have q : 2 ^ 1 ≤ 2 ^ (h - (d + 1)) := Nat.pow_le_pow_right (by omega) (by omega)
  unfold sp
  rw [show ws .post h (d + 1) = ws .post h d from rfl, sN_last, show num .post h (d + 1) = 2 ^ (h - (d + 1)) - 2 from rfl, show num .post h d = 2 ^ (h - d) - 2 from rfl, show ws .post h d d = 2 ^ (h - 1 - d) - 1 from rfl, show h - 1 - d = h - (d + 1) by omega, p, Nat.mul_comm (n % 2)]
  generalize (2 ^ (h - (d + 1)) - 1) * (n % 2) = z
  omega
end SM

namespace SM
open PySem PySem.Spec DL
open PyProof.Rows hiding St
def tl (st : Nat → Nat) : Nat → Nat → Nat
  | _, 0 => 0
  | j, n + 1 => st j + tl st (j + 1) n
theorem tl_snoc (st : Nat → Nat) : ∀ n j, tl st j (n + 1) = tl st j n + st (j + n)
  | 0, j => by simp [tl]
  | n + 1, j => by
    have := tl_snoc st n (j + 1)
    show st j + tl st (j + 1) (n + 1) = st j + tl st (j + 1) n + st (j + (n + 1))
    rw [this, show j + 1 + n = j + (n + 1) by omega]
    omega
theorem tl_mono (st : Nat → Nat) (j : Nat) : ∀ n m, m ≤ n → tl st j m ≤ tl st j n
  | 0, m, h => by rw [show m = 0 by omega]; exact Nat.le_refl _
  | n + 1, m, h => by
    rw [tl_snoc]
    by_cases c : m = n + 1
    · rw [c, tl_snoc]; exact Nat.le_refl _
    · have := tl_mono st j n m (by omega)
      omega
theorem tl_congr {st st' : Nat → Nat} : ∀ n j, (∀ i, j ≤ i → i < j + n → st i = st' i) → tl st j n = tl st' j n
  | 0, _, _ => rfl
  | n + 1, j, h => by
    unfold tl
    rw [h j (by omega) (by omega), tl_congr n (j + 1) fun i h1 h2 => h i (by omega) (by omega)]
theorem tl_shift {st st' : Nat → Nat} (a : Nat) : ∀ n j, (∀ i, j ≤ i → i < j + n → st (a + i) = st' i) → tl st (a + j) n = tl st' j n
  | 0, _, _ => rfl
  | n + 1, j, h => by
    unfold tl
    rw [h j (by omega) (by omega), show a + j + 1 = a + (j + 1) by omega, tl_shift a n (j + 1) fun i h1 h2 => h i (by omega) (by omega)]
theorem tl_geo (c t : Nat) : ∀ n i, i + n = t → tl (fun j => c * 2 ^ (t - 1 - j)) i n + c = c * 2 ^ n
  | 0, i, _ => by simp [tl]
  | n + 1, i, h => by
    have ih := tl_geo c t n (i + 1) (by omega)
    unfold tl
    rw [show t - 1 - i = n by omega, Nat.pow_succ, ← Nat.mul_assoc]
    omega
/-- the tail of a sum over bits -/
theorem sN_le (d n : Nat) (st : Nat → Nat) : ∀ i, sN d n st i ≤ tl st 0 i
  | 0 => Nat.le_refl _
  | i + 1 => by
    rw [tl_snoc, Nat.zero_add]
    unfold sN
    have := sN_le d n st i
    rcases bt_01 n (d - 1 - i) with b | b <;> rw [b] <;> omega
theorem bt_ones (L j : Nat) (hj : j < L) : bt (2 ^ L - 1) j = 1 := by
  have e : 2 ^ L = 2 ^ (L - j) * 2 ^ j := by rw [← Nat.pow_add, show L - j + j = L by omega]
  have p1 := p2pos j
  have p : 2 ^ (L - j) = 2 ^ (L - j - 1) * 2 := p2s (by omega)
  have p2 := p2pos (L - j - 1)
  have q : (2 ^ L - 1) / 2 ^ j = 2 ^ (L - j) - 1 := by
    apply Nat.div_eq_of_lt_le
    · rw [e, Nat.sub_mul]; omega
    · rw [show 2 ^ (L - j) - 1 + 1 = 2 ^ (L - j) by omega, ← e]; have := p2pos L; omega
  unfold bt
  rw [q, p]
  omega
theorem sN_ones (L : Nat) (st : Nat → Nat) : ∀ i, i ≤ L → sN L (2 ^ L - 1) st i = tl st 0 i
  | 0, _ => rfl
  | i + 1, h => by
    rw [tl_snoc, Nat.zero_add]
    unfold sN
    rw [sN_ones L st i (by omega), bt_ones L _ (by omega), Nat.one_mul]
theorem sN_zero (L : Nat) (st : Nat → Nat) : ∀ i, sN L 0 st i = 0
  | 0 => rfl
  | i + 1 => by
    unfold sN
    rw [sN_zero L st i]
    simp [bt]
theorem sN_sub (d n : Nat) {c w : Nat → Nat} : ∀ i, (∀ j, j < i → w j ≤ c j) → sN d n (fun j => c j - w j) i + sN d n w i = sN d n c i
  | 0, _ => rfl
  | i + 1, h => by
    unfold sN
    have ih := sN_sub d n i fun j hj => h j (by omega)
    have := h i (by omega)
    rcases bt_01 n (d - 1 - i) with b | b <;> rw [b] <;> omega
def cl (k : Kd) (h d : Nat) : Nat :=
  if c : 2 ≤ h then if d < topOf k h then cl k (topOf k h) d else if d = topOf k h then h else cl k (h - topOf k h) (d - topOf k h) else 0
termination_by h
decreasing_by
  · exact (topOf_b k h c).2
  · have := (topOf_b k h c).1
    omega
theorem cl_t {k : Kd} {h d : Nat} (hh : 2 ≤ h) (hd : d < topOf k h) : cl k h d = cl k (topOf k h) d := by
  rw [cl, dif_pos hh, if_pos hd]
theorem cl_m {k : Kd} {h : Nat} (hh : 2 ≤ h) : cl k h (topOf k h) = h := by
  rw [cl, dif_pos hh, if_neg (Nat.lt_irrefl _), if_pos rfl]
theorem cl_b {k : Kd} {h d : Nat} (hh : 2 ≤ h) (hd : topOf k h < d) : cl k h d = cl k (h - topOf k h) (d - topOf k h) := by
  rw [cl, dif_pos hh, if_neg (by omega), if_neg (by omega)]
theorem cl_ok (k : Kd) : ∀ h d, 1 ≤ d → d < h → 2 ≤ cl k h d ∧ cl k h d ≤ h ∧ topOf k (cl k h d) ≤ d := by
  intro h
  induction h using Nat.strongRecOn with
  | ind h ih =>
  intro d h1 h2
  obtain ⟨t1, t2⟩ := topOf_b k h (by omega)
  by_cases c : d < topOf k h
  · rw [cl_t (by omega) c]
    have := ih _ t2 d h1 c
    omega
  · by_cases c2 : d = topOf k h
    · subst c2
      rw [cl_m (by omega)]
      omega
    · rw [cl_b (by omega) (by omega)]
      have := ih (h - topOf k h) (by omega) (d - topOf k h) (by omega) (by omega)
      omega
/-- what the steps of a way add at the edge between a top and its bottoms -/
def lea (k : Kd) (l : Nat) : Nat := 2 ^ topOf k l - 1 - num k (topOf k l) (topOf k l - 1)
def wv (k : Kd) (t i : Nat) : Nat := if i + 1 < t then ws k t (t - 1) i else 0
def stp (k : Kd) (l i : Nat) : Nat := (2 ^ (l - topOf k l) - 1) * 2 ^ (topOf k l - 1 - i) - wv k (topOf k l) i
theorem num_0 {k : Kd} (hk : isCut k = true) : ∀ h, num k h 0 = 0 := by
  intro h
  induction h using Nat.strongRecOn with
  | ind h ih =>
  by_cases c : 2 ≤ h
  · obtain ⟨t1, t2⟩ := topOf_b k h c
    rw [num_t hk c (by omega)]
    exact ih _ t2
  · exact num_1 hk (by omega)
theorem tophalf {k : Kd} (hk : isCut k = true) {h : Nat} (hh : 2 ≤ h) : topOf k h - topOf k (topOf k h) ≤ h - topOf k h := by
  cases k <;> first | cases hk | skip
  · simp only [topOf]; omega
  · simp only [topOf]; omega
  · have a : h - 1 < 2 ^ (Nat.log2 (h - 1) + 1) := Nat.lt_log2_self
    have b : 2 ^ Nat.log2 (h - 1) ≤ h - 1 := Nat.log2_self_le (by omega)
    rw [Nat.pow_succ] at a
    have e : topOf .pow h = h - 2 ^ Nat.log2 (h - 1) := rfl
    generalize 2 ^ Nat.log2 (h - 1) = B at *
    omega
theorem w_dom {k : Kd} (hk : isCut k = true) : ∀ t i n, i + n + 2 = t → ws k t (t - 1) i + 1 ≤ tl (ws k t (t - 1)) (i + 1) n + 2 ^ (t - topOf k t) := by
  intro t
  induction t using Nat.strongRecOn with
  | ind t ih =>
  intro i n hn
  obtain ⟨t1, t2⟩ := topOf_b k t (by omega)
  have pb := p2pos (t - topOf k t)
  by_cases c : i < topOf k t
  · rw [ws_b1 hk (by omega) (by omega) c]
    have a := tl_mono (ws k t (t - 1)) (i + 1) n (topOf k t - 1 - i) (by omega)
    have b := tl_geo (2 ^ (t - topOf k t) - 1) (topOf k t) (topOf k t - 1 - i) (i + 1) (by omega)
    rw [← tl_congr (st := ws k t (t - 1)) (topOf k t - 1 - i) (i + 1) fun j h1 h2 => ws_b1 hk (by omega) (by omega) (by omega)] at b
    omega
  · rw [ws_b2 hk (by omega) (by omega) (by omega)]
    have z := ih (t - topOf k t) (by omega) (i - topOf k t) n (by omega)
    rw [show t - topOf k t - 1 = t - 1 - topOf k t by omega] at z
    have y := tl_shift (st := ws k t (t - 1)) (st' := ws k (t - topOf k t) (t - 1 - topOf k t)) (topOf k t) n (i - topOf k t + 1) fun j h1 h2 => by
      rw [ws_b2 hk (by omega) (by omega) (by omega), show topOf k t + j - topOf k t = j by omega]
    rw [show topOf k t + (i - topOf k t + 1) = i + 1 by omega] at y
    rw [y]
    have x : 2 ^ (t - topOf k t - topOf k (t - topOf k t)) ≤ 2 ^ (t - topOf k t) := Nat.pow_le_pow_right (by omega) (by omega)
    omega
theorem w_sum {k : Kd} (hk : isCut k = true) (t : Nat) : ∀ n i, i + n + 1 = t → tl (ws k t (t - 1)) i n + (2 ^ (t - topOf k t) - 1) ≤ (2 ^ (t - topOf k t) - 1) * 2 ^ n
  | 0, i, _ => by simp [tl]
  | n + 1, i, h => by
    have ih := w_sum hk t n (i + 1) (by omega)
    have a := w_dom hk t i n (by omega)
    unfold tl
    rw [Nat.pow_succ, ← Nat.mul_assoc]
    omega
section
variable {k : Kd} {l : Nat}
theorem M_le (hk : isCut k = true) (hl : 2 ≤ l) : 2 ^ (topOf k l - topOf k (topOf k l)) ≤ 2 ^ (l - topOf k l) := Nat.pow_le_pow_right (by omega) (tophalf hk hl)
theorem wv_le (hk : isCut k = true) (hl : 2 ≤ l) (i : Nat) (hi : i < topOf k l) : wv k (topOf k l) i ≤ (2 ^ (l - topOf k l) - 1) * 2 ^ (topOf k l - 1 - i) := by
  unfold wv
  split
  case isFalse => omega
  case isTrue c =>
  have a := w_sum hk (topOf k l) (topOf k l - 1 - i) i (by omega)
  have m := M_le hk hl
  have b : (2 ^ (topOf k l - topOf k (topOf k l)) - 1) * 2 ^ (topOf k l - 1 - i) ≤ (2 ^ (l - topOf k l) - 1) * 2 ^ (topOf k l - 1 - i) := Nat.mul_le_mul_right _ (by omega)
  have e : topOf k l - 1 - i = topOf k l - 2 - i + 1 := by omega
  rw [e] at a b ⊢
  unfold tl at a
  omega
/-- each step adds no less than all behind it -/
theorem stp_dom (hk : isCut k = true) (hl : 2 ≤ l) (i n : Nat) (hn : i + n + 1 = topOf k l) : tl (stp k l) (i + 1) n ≤ stp k l i := by
  have m := M_le hk hl
  have g := tl_geo (2 ^ (l - topOf k l) - 1) (topOf k l) n (i + 1) (by omega)
  have s : ∀ m j, j + m = topOf k l → tl (stp k l) j m + tl (wv k (topOf k l)) j m = tl (fun j => (2 ^ (l - topOf k l) - 1) * 2 ^ (topOf k l - 1 - j)) j m := by
    intro m
    induction m with
    | zero => intro j _; rfl
    | succ m ih =>
      intro j hj
      have a := ih (j + 1) (by omega)
      have b := wv_le hk hl j (by omega)
      unfold tl
      have c : stp k l j = (2 ^ (l - topOf k l) - 1) * 2 ^ (topOf k l - 1 - j) - wv k (topOf k l) j := rfl
      omega
  have s1 := s n (i + 1) (by omega)
  have c : stp k l i = (2 ^ (l - topOf k l) - 1) * 2 ^ (topOf k l - 1 - i) - wv k (topOf k l) i := rfl
  have d := wv_le hk hl i (by omega)
  rw [show topOf k l - 1 - i = n by omega] at c d
  have f : wv k (topOf k l) i ≤ tl (wv k (topOf k l)) (i + 1) n + (2 ^ (l - topOf k l) - 1) := by
    cases n with
    | zero =>
      have : wv k (topOf k l) i = 0 := by unfold wv; rw [if_neg (by omega)]
      omega
    | succ n =>
      have a := w_dom hk (topOf k l) i n (by omega)
      rw [tl_snoc, show wv k (topOf k l) (i + 1 + n) = 0 by unfold wv; rw [if_neg (by omega)]]
      rw [tl_congr (st := wv k (topOf k l)) (st' := ws k (topOf k l) (topOf k l - 1)) n (i + 1) fun j h1 h2 => by unfold wv; rw [if_pos (by omega)]]
      rw [show wv k (topOf k l) i = ws k (topOf k l) (topOf k l - 1) i by unfold wv; rw [if_pos (by omega)]]
      omega
  omega
theorem lea_pos (hk : isCut k = true) (hl : 2 ≤ l) : 1 ≤ lea k l ∧ num k (topOf k l) (topOf k l - 1) + lea k l = 2 ^ topOf k l - 1 := by
  obtain ⟨t1, t2⟩ := topOf_b k l hl
  have a := (bij_kd k (topOf k l)).lt (topOf k l - 1) 0 (by omega) (p2pos _)
  have b : sp k (topOf k l) (topOf k l - 1) 0 = num k (topOf k l) (topOf k l - 1) := by unfold sp; rw [sN_zero]; omega
  unfold lea
  omega
/-- at the edge -/
theorem edge (hk : isCut k = true) (hl : 2 ≤ l) (n : Nat) (hn : n < 2 ^ topOf k l) : sp k l (topOf k l) n = sp k l (topOf k l - 1) (n / 2) + (lea k l + sN (topOf k l) n (stp k l) (topOf k l)) := by
  obtain ⟨t1, t2⟩ := topOf_b k l hl
  have a := sp_cut_b hk n hl (Nat.le_refl (topOf k l)) hn
  rw [Nat.sub_self, Nat.pow_zero, Nat.div_one, Nat.mod_one] at a
  have z : sp k (l - topOf k l) 0 0 = 0 := by unfold sp; rw [num_0 hk]; rfl
  rw [z] at a
  have b := sp_cut_t hk (d := topOf k l - 1) (n / 2) hl (by omega)
  have c := lea_pos hk hl
  have d := sN_sub (topOf k l) n (c := fun i => (2 ^ (l - topOf k l) - 1) * 2 ^ (topOf k l - 1 - i)) (w := wv k (topOf k l)) (topOf k l) fun j hj => wv_le hk hl j hj
  rw [sN_geo _ _ _ hn] at d
  have e : sN (topOf k l) n (wv k (topOf k l)) (topOf k l) = sN (topOf k l - 1) (n / 2) (ws k (topOf k l) (topOf k l - 1)) (topOf k l - 1) := by
    have e1 := sN_last (wv k (topOf k l)) (topOf k l - 1) n
    rw [show topOf k l - 1 + 1 = topOf k l by omega] at e1
    rw [e1, show wv k (topOf k l) (topOf k l - 1) = 0 by unfold wv; rw [if_neg (by omega)], Nat.mul_zero, Nat.add_zero]
    exact sN_congr _ _ _ fun j hj => by unfold wv; rw [if_pos (by omega)]
  have f : sp k (topOf k l) (topOf k l - 1) (n / 2) = num k (topOf k l) (topOf k l - 1) + sN (topOf k l - 1) (n / 2) (ws k (topOf k l) (topOf k l - 1)) (topOf k l - 1) := rfl
  have g : sN (topOf k l) n (stp k l) (topOf k l) + sN (topOf k l) n (wv k (topOf k l)) (topOf k l) = (2 ^ (l - topOf k l) - 1) * n := d
  rw [Nat.mul_comm] at g
  rw [a, b, f]
  omega
end
theorem half_mod (n e : Nat) (he : 1 ≤ e) : n % 2 ^ e / 2 = n / 2 % 2 ^ (e - 1) := by
  rw [show 2 ^ e = 2 * 2 ^ (e - 1) by rw [p2s (show e = e - 1 + 1 by omega)]; omega]
  exact Nat.mod_mul_right_div_self ..
theorem cut_step {k : Kd} (hk : isCut k = true) : ∀ h d n, 1 ≤ d → d < h → n < 2 ^ d →
    sp k h d n = sp k h (d - 1) (n / 2) + (lea k (cl k h d) + sN (topOf k (cl k h d)) (n % 2 ^ topOf k (cl k h d)) (stp k (cl k h d)) (topOf k (cl k h d))) := by
  intro h
  induction h using Nat.strongRecOn with
  | ind h ih =>
  intro d n h1 h2 hn
  obtain ⟨t1, t2⟩ := topOf_b k h (by omega)
  by_cases c : d < topOf k h
  · rw [cl_t (by omega) c, sp_cut_t hk n (by omega) c, sp_cut_t hk (n / 2) (by omega) (by omega)]
    exact ih _ t2 d n h1 c hn
  · by_cases c2 : d = topOf k h
    · subst c2
      rw [cl_m (by omega), Nat.mod_eq_of_lt hn]
      exact edge hk (by omega) n hn
    · rw [cl_b (by omega) (by omega)]
      have hp : n / 2 < 2 ^ (d - 1) := by
        have : 2 ^ d = 2 ^ (d - 1) * 2 := p2s (by omega)
        omega
      rw [sp_cut_b hk n (by omega) (by omega) hn, sp_cut_b hk (n / 2) (by omega) (show topOf k h ≤ d - 1 by omega) hp]
      have z := ih (h - topOf k h) (by omega) (d - topOf k h) (n % 2 ^ (d - topOf k h)) (by omega) (by omega) (mod_lt_p _ _)
      have o := cl_ok k (h - topOf k h) (d - topOf k h) (by omega) (by omega)
      rw [half_mod n _ (by omega), Nat.mod_mod_of_dvd _ (Nat.pow_dvd_pow 2 o.2.2)] at z
      have y : n / 2 / 2 ^ (d - 1 - topOf k h) = n / 2 ^ (d - topOf k h) := by
        rw [show d - topOf k h = d - 1 - topOf k h + 1 by omega, Nat.pow_succ, Nat.mul_comm, Nat.div_div_eq_div_mul]
      rw [y, show d - 1 - topOf k h = d - topOf k h - 1 by omega]
      omega
def gl : Kd → Nat → Nat → Nat
  | .lev, _, d => 2 ^ (d - 1)
  | .ino, h, d => 2 ^ (h - 1 - d)
  | .pre, _, _ => 1
  | .post, _, _ => 1
  | k, h, d => lea k (cl k h d)
def gn : Kd → Nat → Nat → Nat
  | .lev, _, d => d
  | .ino, _, _ => 0
  | .pre, _, _ => 1
  | .post, _, _ => 1
  | k, h, d => topOf k (cl k h d)
def gs : Kd → Nat → Nat → Nat → Nat
  | .lev, _, d, i => 2 ^ (d - 2 - i)
  | .ino, _, _, _ => 0
  | .pre, h, d, _ => 2 ^ (h - d) - 1
  | .post, h, d, _ => 2 ^ (h - d) - 1
  | k, h, d, i => stp k (cl k h d) i
/-- the last steps of a node, as they add -/
def gm (k : Kd) (h d n : Nat) : Nat := if k = .post then 2 ^ gn k h d - 1 - n % 2 ^ gn k h d else n % 2 ^ gn k h d
def gv (k : Kd) (h d n : Nat) : Nat := gl k h d + sN (gn k h d) (gm k h d n) (gs k h d) (gn k h d)
theorem gm_lt (k : Kd) (h d n : Nat) : gm k h d n < 2 ^ gn k h d := by
  have := mod_lt_p n (gn k h d)
  unfold gm
  split <;> omega
theorem gn_le (k : Kd) (h d : Nat) (h1 : 1 ≤ d) (h2 : d < h) : gn k h d ≤ d := by
  cases k with
  | les => exact (cl_ok .les h d h1 h2).2.2
  | gre => exact (cl_ok .gre h d h1 h2).2.2
  | pow => exact (cl_ok .pow h d h1 h2).2.2
  | lev => exact Nat.le_refl _
  | ino => exact Nat.zero_le _
  | pre => exact h1
  | post => exact h1
theorem gl_pos (k : Kd) (h d : Nat) (h1 : 1 ≤ d) (h2 : d < h) : 1 ≤ gl k h d := by
  cases k with
  | les => exact (lea_pos rfl (cl_ok .les h d h1 h2).1).1
  | gre => exact (lea_pos rfl (cl_ok .gre h d h1 h2).1).1
  | pow => exact (lea_pos rfl (cl_ok .pow h d h1 h2).1).1
  | lev => exact p2pos _
  | ino => exact p2pos _
  | pre => exact Nat.le_refl _
  | post => exact Nat.le_refl _
theorem g_dom (k : Kd) (h d i n : Nat) (h1 : 1 ≤ d) (h2 : d < h) (hn : i + n + 1 = gn k h d) : tl (gs k h d) (i + 1) n ≤ gs k h d i := by
  cases k with
  | lev =>
    have hn : i + n + 1 = d := hn
    cases n with
    | zero => exact Nat.zero_le _
    | succ n =>
      have e : gs .lev h d i = 2 ^ (d - 2 - i) := rfl
      rw [tl_snoc, e, show gs .lev h d (i + 1 + n) = 2 ^ (d - 2 - (i + 1 + n)) from rfl, show d - 2 - (i + 1 + n) = 0 by omega]
      have g := tl_geo 1 (d - 1) n (i + 1) (by omega)
      rw [tl_congr (st' := gs .lev h d) n (i + 1) fun j a b => by show 1 * 2 ^ (d - 1 - 1 - j) = 2 ^ (d - 2 - j); rw [Nat.one_mul, show d - 1 - 1 - j = d - 2 - j by omega]] at g
      rw [show d - 2 - i = n by omega]
      omega
  | ino => exact absurd hn (by show i + n + 1 ≠ 0; omega)
  | pre =>
    have hn : i + n + 1 = 1 := hn
    rw [show n = 0 by omega]
    exact Nat.zero_le _
  | post =>
    have hn : i + n + 1 = 1 := hn
    rw [show n = 0 by omega]
    exact Nat.zero_le _
  | les => exact stp_dom rfl (cl_ok _ h d h1 h2).1 i n hn
  | gre => exact stp_dom rfl (cl_ok _ h d h1 h2).1 i n hn
  | pow => exact stp_dom rfl (cl_ok _ h d h1 h2).1 i n hn
theorem sN_one (b : Nat) (st : Nat → Nat) : sN 1 b st 1 = b % 2 * st 0 := by
  show 0 + bt b 0 * st 0 = _
  rw [Nat.zero_add]
  unfold bt
  rw [Nat.pow_zero, Nat.div_one]
theorem gv_up (k : Kd) (hp : k ≠ .post) (hi : k ≠ .ino) (h d n : Nat) (h1 : 1 ≤ d) (h2 : d < h) (hn : n < 2 ^ d) : sp k h d n = sp k h (d - 1) (n / 2) + gv k h d n := by
  cases k with
  | post => exact absurd rfl hp
  | ino => exact absurd rfl hi
  | lev =>
    have hq : n / 2 < 2 ^ (d - 1) := by
      have : 2 ^ d = 2 ^ (d - 1) * 2 := p2s (by omega)
      omega
    have p : 2 ^ d = 2 ^ (d - 1) * 2 := p2s (by omega)
    have e : gv .lev h d n = 2 ^ (d - 1) + sN d (n % 2 ^ d) (fun i => 2 ^ (d - 2 - i)) d := rfl
    have f := sN_last (fun i => 2 ^ (d - 2 - i)) (d - 1) n
    rw [show d - 1 + 1 = d by omega] at f
    have g := sN_geo (d - 1) (n / 2) 1 hq
    have g2 : sN (d - 1) (n / 2) (fun i => 1 * 2 ^ (d - 1 - 1 - i)) (d - 1) = sN (d - 1) (n / 2) (fun i => 2 ^ (d - 2 - i)) (d - 1) := sN_congr (d - 1) (n / 2) (d - 1) (fun j _ => (by
      show 1 * 2 ^ (d - 1 - 1 - j) = 2 ^ (d - 2 - j)
      rw [Nat.one_mul, show d - 1 - 1 - j = d - 2 - j by omega]))
    rw [g2] at g
    rw [g] at f
    rw [sp_lev h d n hn, sp_lev h (d - 1) (n / 2) hq, e, Nat.mod_eq_of_lt hn, f, p]
    try dsimp only
    rw [show d - 2 - (d - 1) = 0 by omega]
    have := p2pos (d - 1)
    omega
  | pre =>
    have a := par_pre h (d - 1) n (by omega)
    rw [show d - 1 + 1 = d by omega] at a
    have e : gv .pre h d n = 1 + sN 1 (n % 2 ^ 1) (fun _ => 2 ^ (h - d) - 1) 1 := rfl
    rw [a, e, sN_one, Nat.mul_comm (n % 2 ^ 1 % 2), show n % 2 ^ 1 % 2 = n % 2 by omega]
    omega
  | les => exact cut_step rfl h d n h1 h2 hn
  | gre => exact cut_step rfl h d n h1 h2 hn
  | pow => exact cut_step rfl h d n h1 h2 hn
theorem gv_post (h d n : Nat) (h1 : 1 ≤ d) (h2 : d < h) : sp .post h (d - 1) (n / 2) = sp .post h d n + gv .post h d n := by
  have a := par_post h (d - 1) n (by omega)
  rw [show d - 1 + 1 = d by omega] at a
  have e : gv .post h d n = 1 + sN 1 (2 ^ 1 - 1 - n % 2 ^ 1) (fun _ => 2 ^ (h - d) - 1) 1 := rfl
  rw [e, sN_one]
  rcases (show n % 2 = 0 ∨ n % 2 = 1 by omega) with b | b
  · rw [b] at a
    rw [show (2 ^ 1 - 1 - n % 2 ^ 1) % 2 = 1 by omega]
    omega
  · rw [b] at a
    rw [show (2 ^ 1 - 1 - n % 2 ^ 1) % 2 = 0 by omega]
    omega
theorem gv_ino (h d n : Nat) (h1 : 1 ≤ d) (h2 : d < h) : sp .ino h d n = sp .ino h (d - 1) (n / 2) + gv .ino h d n ∨ sp .ino h (d - 1) (n / 2) = sp .ino h d n + gv .ino h d n := by
  have a := par_ino h (d - 1) n (by omega)
  rw [show d - 1 + 1 = d by omega] at a
  have e : gv .ino h d n = 2 ^ (h - 1 - d) := rfl
  rw [e]
  generalize 2 ^ (h - 1 - d) = X at *
  rcases (show n % 2 = 0 ∨ n % 2 = 1 by omega) with b | b <;> rw [b] at a
  · right; omega
  · left; omega
theorem gv_abs (k : Kd) (h d n : Nat) (h1 : 1 ≤ d) (h2 : d < h) (hn : n < 2 ^ d) : sp k h d n = sp k h (d - 1) (n / 2) + gv k h d n ∨ sp k h (d - 1) (n / 2) = sp k h d n + gv k h d n := by
  by_cases c : k = .post
  · subst c; exact .inr (gv_post h d n h1 h2)
  · by_cases c2 : k = .ino
    · subst c2; exact gv_ino h d n h1 h2
    · exact .inl (gv_up k c c2 h d n h1 h2 hn)
theorem gv_le (k : Kd) (h d n : Nat) : gv k h d n ≤ gl k h d + tl (gs k h d) 0 (gn k h d) := Nat.add_le_add_left (sN_le _ _ _ _) _
/-- the first node that is farthest -/
def gq (k : Kd) (h d : Nat) : Nat := if k = .post then 0 else 2 ^ gn k h d - 1
theorem gq_lt (k : Kd) (h d : Nat) (h1 : 1 ≤ d) (h2 : d < h) : gq k h d < 2 ^ d := by
  have a : 2 ^ gn k h d ≤ 2 ^ d := Nat.pow_le_pow_right (by omega) (gn_le k h d h1 h2)
  have b := p2pos (gn k h d)
  have c := p2pos d
  unfold gq
  split <;> omega
theorem gv_q (k : Kd) (h d : Nat) : gv k h d (gq k h d) = gl k h d + tl (gs k h d) 0 (gn k h d) := by
  have b := p2pos (gn k h d)
  have e : gm k h d (gq k h d) = 2 ^ gn k h d - 1 := by
    unfold gm gq
    split
    · rw [Nat.zero_mod]; omega
    · exact Nat.mod_eq_of_lt (by omega)
  unfold gv
  rw [e, sN_ones _ _ _ (Nat.le_refl _)]
theorem g_bound (k : Kd) (h d : Nat) (h1 : 1 ≤ d) (h2 : d < h) : gl k h d + tl (gs k h d) 0 (gn k h d) < 2 ^ h := by
  rw [← gv_q]
  have hq := gq_lt k h d h1 h2
  have hp : gq k h d / 2 < 2 ^ (d - 1) := by
    have : 2 ^ d = 2 ^ (d - 1) * 2 := p2s (by omega)
    omega
  have a := (bij_kd k h).lt d _ h2 hq
  have b := (bij_kd k h).lt (d - 1) _ (by omega) hp
  have c := gv_abs k h d _ h1 h2 hq
  omega
end SM

namespace SM
open PySem PySem.Spec DL
open PyProof.Rows hiding St
theorem req_depth (h d : Nat) (hd : d < h) : m_require_depth [.int h, .int d] = .ok (.none, false) [] := by
  have e : (d : Int) ≤ (h : Int) - 1 := by omega
  simp [m_require_depth, b_require_depth, is_whole_int, e_tUnl, e_ext, e_ext0, e_ext1, e_ext2, e_dix, e_dix1, e_dix2, e_look, e_rev, e_rev1, e_lr1, e_lr11, e_isE1, e_isE2, e_isE3, e_isE4, e_isE5, e_isE6, e_try, e_try1, e_try2, e_eqAS, e_neAS, e_eqAI, e_neAI, e_bind_ok, e_bind_exc, e_bind_stk, e_var, e_var1, e_var2, e_move, e_move1, e_move2, e_C, e_fin1, e_bin, e_bin1, e_bin2, e_chain, e_chain1, e_chain2, e_chain3, e_chain4, e_chain5, e_if, e_if1, e_if2, e_tv, e_tv1, e_notT, e_notT1, e_andT, e_andT1, e_andT2, e_orT, e_orT1, e_orT2, e_andV, e_andV1, e_andV2, e_orV, e_orV1, e_orV2, e_notV, e_notV1, e_aNil, e_aCons, e_aCons1, e_aCons2, e_star, e_star1, e_star2, e_star3, e_lst, e_lst1, e_tup, e_tup1, e_call, e_call1, e_slot, e_slot1, e_sb, e_sb0, e_sb1, e_sb2, e_sb3, e_bs, e_bs1, e_bs2, e_lenV, e_lenV1, e_un, e_un1, e_def, e_def1, e_def2, e_def3, e_fix0, e_fix1, e_fix2, e_def4, e_def0, e_def01, e_jNil, e_jVal, e_jVal1, e_j2, e_jIo, e_jIo1, e_itD0, e_itD1, e_itD2, e_itD3, e_itJ0, e_itJ1, e_itJ2, e_itP0, e_itP1, e_itP2, e_setMany0, e_setMany1, e_nodup0, e_nodup1, e_noPart, e_part, e_part1, e_slice, e_slice1, e_slice2, e_slice3, e_lstRg, e_lstRg1, e_lstRg2, e_iSeq, e_iSeq1, e_iSeq2, e_iEn, e_iEn1, e_iEn2, e_iR1, e_iR11, e_iR2, e_iR21, e_yes, e_lc, e_lc1, e_lc2, e_wipe0, e_wipe1, e_back0, e_back1, e_back2, e_noneOwn0, e_noneOwn1, e_noneOwn2, e_noneOwn3, e_noneOwn4, e_name, e_set, e_tNil, e_tCons, e_tCons1, e_tTup, e_seq, e_seq1, e_seq2, e_seq3, e_seq4, e_seq5, e_next, e_break, e_cont, e_expr, e_expr1, e_ret, e_ret1, e_sIf, e_sIf1, e_sIf2, e_asg, e_asg1, e_asg2, e_aug, e_aug0, e_aug1, e_aug2, e_aug3, e_par, e_par1, e_par2, e_app, e_app0, e_app1, e_app2, e_setIx, e_setIx0, e_setIx1, e_setIx2, e_setIx3, e_setIx4, e_match, e_match1, e_mCase, e_mAny, e_raise, e_for, e_body, e_body1, e_body2, e_body3, e_body4, e_body5, e_outs0, e_outs1, e_outs2, e_start0, e_start1, e_addI, e_addL, e_addI2, e_sub, e_cmp, e_eqI, e_neI, e_eqB, e_isN0, e_isN1, e_isN2, e_isN3, e_notN0, e_notN1, e_notN2, e_notN3, e_int, e_intB, e_max, e_min, e_neg, e_bits, e_lenL, e_lenT, e_lenS, e_ixL, e_ixT, e_ixS, e_at0, e_at1, e_at2, e_map, e_lstOf, e_lstOfS, e_seqOf, e_seqOfT, e_seqOfS, e_isiIB, e_isiII, e_isiTT, e_isiLL, e]
end SM

namespace SM
open PySem PySem.Spec DL
open PyProof.Rows hiding St
theorem req_height (h : Nat) (h1 : 1 ≤ h) (h2 : h ≤ 100) : m_require_height [.int h] = .ok (.none, false) [] := by
  have a1 : (1 : Int) ≤ h := by omega
  have a2 : (h : Int) ≤ 100 := by omega
  simp [m_require_height, b_require_height, is_whole_int, e_tUnl, e_ext, e_ext0, e_ext1, e_ext2, e_dix, e_dix1, e_dix2, e_look, e_rev, e_rev1, e_lr1, e_lr11, e_isE1, e_isE2, e_isE3, e_isE4, e_isE5, e_isE6, e_try, e_try1, e_try2, e_eqAS, e_neAS, e_eqAI, e_neAI, e_bind_ok, e_bind_exc, e_bind_stk, e_var, e_var1, e_var2, e_move, e_move1, e_move2, e_C, e_fin1, e_bin, e_bin1, e_bin2, e_chain, e_chain1, e_chain2, e_chain3, e_chain4, e_chain5, e_if, e_if1, e_if2, e_tv, e_tv1, e_notT, e_notT1, e_andT, e_andT1, e_andT2, e_orT, e_orT1, e_orT2, e_andV, e_andV1, e_andV2, e_orV, e_orV1, e_orV2, e_notV, e_notV1, e_aNil, e_aCons, e_aCons1, e_aCons2, e_star, e_star1, e_star2, e_star3, e_lst, e_lst1, e_tup, e_tup1, e_call, e_call1, e_slot, e_slot1, e_sb, e_sb0, e_sb1, e_sb2, e_sb3, e_bs, e_bs1, e_bs2, e_lenV, e_lenV1, e_un, e_un1, e_def, e_def1, e_def2, e_def3, e_fix0, e_fix1, e_fix2, e_def4, e_def0, e_def01, e_jNil, e_jVal, e_jVal1, e_j2, e_jIo, e_jIo1, e_itD0, e_itD1, e_itD2, e_itD3, e_itJ0, e_itJ1, e_itJ2, e_itP0, e_itP1, e_itP2, e_setMany0, e_setMany1, e_nodup0, e_nodup1, e_noPart, e_part, e_part1, e_slice, e_slice1, e_slice2, e_slice3, e_lstRg, e_lstRg1, e_lstRg2, e_iSeq, e_iSeq1, e_iSeq2, e_iEn, e_iEn1, e_iEn2, e_iR1, e_iR11, e_iR2, e_iR21, e_yes, e_lc, e_lc1, e_lc2, e_wipe0, e_wipe1, e_back0, e_back1, e_back2, e_noneOwn0, e_noneOwn1, e_noneOwn2, e_noneOwn3, e_noneOwn4, e_name, e_set, e_tNil, e_tCons, e_tCons1, e_tTup, e_seq, e_seq1, e_seq2, e_seq3, e_seq4, e_seq5, e_next, e_break, e_cont, e_expr, e_expr1, e_ret, e_ret1, e_sIf, e_sIf1, e_sIf2, e_asg, e_asg1, e_asg2, e_aug, e_aug0, e_aug1, e_aug2, e_aug3, e_par, e_par1, e_par2, e_app, e_app0, e_app1, e_app2, e_setIx, e_setIx0, e_setIx1, e_setIx2, e_setIx3, e_setIx4, e_match, e_match1, e_mCase, e_mAny, e_raise, e_for, e_body, e_body1, e_body2, e_body3, e_body4, e_body5, e_outs0, e_outs1, e_outs2, e_start0, e_start1, e_addI, e_addL, e_addI2, e_sub, e_cmp, e_eqI, e_neI, e_eqB, e_isN0, e_isN1, e_isN2, e_isN3, e_notN0, e_notN1, e_notN2, e_notN3, e_int, e_intB, e_max, e_min, e_neg, e_bits, e_lenL, e_lenT, e_lenS, e_ixL, e_ixT, e_ixS, e_at0, e_at1, e_at2, e_map, e_lstOf, e_lstOfS, e_seqOf, e_seqOfT, e_seqOfS, e_isiIB, e_isiII, e_isiTT, e_isiLL, a1, a2]
end SM

namespace SM
open PySem PySem.Spec DL
open PyProof.Rows hiding St
theorem req_kind (k : Kd) : m_require_kind [.str (kn k)] = .ok (.none, false) [] := by cases k <;> kernel_rfl
end SM

namespace SM
open PySem PySem.Spec DL
open PyProof.Rows hiding St
theorem req_tree (q : Kd) (h : Nat) (h0 : 1 ≤ h) (hh : h ≤ 100) : m_require_tree [.str (kn q), .int h] = .ok (.none, false) [] := by
  simp [m_require_tree, b_require_tree, e_tUnl, e_ext, e_ext0, e_ext1, e_ext2, e_dix, e_dix1, e_dix2, e_look, e_rev, e_rev1, e_lr1, e_lr11, e_isE1, e_isE2, e_isE3, e_isE4, e_isE5, e_isE6, e_try, e_try1, e_try2, e_eqAS, e_neAS, e_eqAI, e_neAI, e_bind_ok, e_bind_exc, e_bind_stk, e_var, e_var1, e_var2, e_move, e_move1, e_move2, e_C, e_fin1, e_bin, e_bin1, e_bin2, e_chain, e_chain1, e_chain2, e_chain3, e_chain4, e_chain5, e_if, e_if1, e_if2, e_tv, e_tv1, e_notT, e_notT1, e_andT, e_andT1, e_andT2, e_orT, e_orT1, e_orT2, e_andV, e_andV1, e_andV2, e_orV, e_orV1, e_orV2, e_notV, e_notV1, e_aNil, e_aCons, e_aCons1, e_aCons2, e_star, e_star1, e_star2, e_star3, e_lst, e_lst1, e_tup, e_tup1, e_call, e_call1, e_slot, e_slot1, e_sb, e_sb0, e_sb1, e_sb2, e_sb3, e_bs, e_bs1, e_bs2, e_lenV, e_lenV1, e_un, e_un1, e_def, e_def1, e_def2, e_def3, e_fix0, e_fix1, e_fix2, e_def4, e_def0, e_def01, e_jNil, e_jVal, e_jVal1, e_j2, e_jIo, e_jIo1, e_itD0, e_itD1, e_itD2, e_itD3, e_itJ0, e_itJ1, e_itJ2, e_itP0, e_itP1, e_itP2, e_setMany0, e_setMany1, e_nodup0, e_nodup1, e_noPart, e_part, e_part1, e_slice, e_slice1, e_slice2, e_slice3, e_lstRg, e_lstRg1, e_lstRg2, e_iSeq, e_iSeq1, e_iSeq2, e_iEn, e_iEn1, e_iEn2, e_iR1, e_iR11, e_iR2, e_iR21, e_yes, e_lc, e_lc1, e_lc2, e_wipe0, e_wipe1, e_back0, e_back1, e_back2, e_noneOwn0, e_noneOwn1, e_noneOwn2, e_noneOwn3, e_noneOwn4, e_name, e_set, e_tNil, e_tCons, e_tCons1, e_tTup, e_seq, e_seq1, e_seq2, e_seq3, e_seq4, e_seq5, e_next, e_break, e_cont, e_expr, e_expr1, e_ret, e_ret1, e_sIf, e_sIf1, e_sIf2, e_asg, e_asg1, e_asg2, e_aug, e_aug0, e_aug1, e_aug2, e_aug3, e_par, e_par1, e_par2, e_app, e_app0, e_app1, e_app2, e_setIx, e_setIx0, e_setIx1, e_setIx2, e_setIx3, e_setIx4, e_match, e_match1, e_mCase, e_mAny, e_raise, e_for, e_body, e_body1, e_body2, e_body3, e_body4, e_body5, e_outs0, e_outs1, e_outs2, e_start0, e_start1, e_addI, e_addL, e_addI2, e_sub, e_cmp, e_eqI, e_neI, e_eqB, e_isN0, e_isN1, e_isN2, e_isN3, e_notN0, e_notN1, e_notN2, e_notN3, e_int, e_intB, e_max, e_min, e_neg, e_bits, e_lenL, e_lenT, e_lenS, e_ixL, e_ixT, e_ixS, e_at0, e_at1, e_at2, e_map, e_lstOf, e_lstOfS, e_seqOf, e_seqOfT, e_seqOfS, e_isiIB, e_isiII, e_isiTT, e_isiLL, req_kind q, req_height h h0 hh]
end SM

namespace SM
open PySem PySem.Spec DL
open PyProof.Rows hiding St
theorem weights_ok (q : Kd) (h d : Nat) (hd : d < h) (hh : h ≤ 100) : m_weights [.str (kn q), .int h, .int d] = .ok (.tuple [.int (num q h d : Nat), .list (wsD d (wz q h d))], true) [] := by
  have h1 := req_tree q h (by omega) hh
  have h2 := req_depth h d hd
  have h3 := sums_k q h d hd hh
  simp [m_weights, b_weights, e_retC, e_retC1, e_retC2, e_tUnl, e_ext, e_ext0, e_ext1, e_ext2, e_dix, e_dix1, e_dix2, e_look, e_rev, e_rev1, e_lr1, e_lr11, e_isE1, e_isE2, e_isE3, e_isE4, e_isE5, e_isE6, e_try, e_try1, e_try2, e_eqAS, e_neAS, e_eqAI, e_neAI, e_bind_ok, e_bind_exc, e_bind_stk, e_var, e_var1, e_var2, e_move, e_move1, e_move2, e_C, e_fin1, e_bin, e_bin1, e_bin2, e_chain, e_chain1, e_chain2, e_chain3, e_chain4, e_chain5, e_if, e_if1, e_if2, e_tv, e_tv1, e_notT, e_notT1, e_andT, e_andT1, e_andT2, e_orT, e_orT1, e_orT2, e_andV, e_andV1, e_andV2, e_orV, e_orV1, e_orV2, e_notV, e_notV1, e_aNil, e_aCons, e_aCons1, e_aCons2, e_star, e_star1, e_star2, e_star3, e_lst, e_lst1, e_tup, e_tup1, e_call, e_call1, e_slot, e_slot1, e_sb, e_sb0, e_sb1, e_sb2, e_sb3, e_bs, e_bs1, e_bs2, e_lenV, e_lenV1, e_un, e_un1, e_def, e_def1, e_def2, e_def3, e_fix0, e_fix1, e_fix2, e_def4, e_def0, e_def01, e_jNil, e_jVal, e_jVal1, e_j2, e_jIo, e_jIo1, e_itD0, e_itD1, e_itD2, e_itD3, e_itJ0, e_itJ1, e_itJ2, e_itP0, e_itP1, e_itP2, e_setMany0, e_setMany1, e_nodup0, e_nodup1, e_noPart, e_part, e_part1, e_slice, e_slice1, e_slice2, e_slice3, e_lstRg, e_lstRg1, e_lstRg2, e_iSeq, e_iSeq1, e_iSeq2, e_iEn, e_iEn1, e_iEn2, e_iR1, e_iR11, e_iR2, e_iR21, e_yes, e_lc, e_lc1, e_lc2, e_wipe0, e_wipe1, e_back0, e_back1, e_back2, e_noneOwn0, e_noneOwn1, e_noneOwn2, e_noneOwn3, e_noneOwn4, e_name, e_set, e_tNil, e_tCons, e_tCons1, e_tTup, e_seq, e_seq1, e_seq2, e_seq3, e_seq4, e_seq5, e_next, e_break, e_cont, e_expr, e_expr1, e_ret, e_ret1, e_sIf, e_sIf1, e_sIf2, e_asg, e_asg1, e_asg2, e_aug, e_aug0, e_aug1, e_aug2, e_aug3, e_par, e_par1, e_par2, e_app, e_app0, e_app1, e_app2, e_setIx, e_setIx0, e_setIx1, e_setIx2, e_setIx3, e_setIx4, e_match, e_match1, e_mCase, e_mAny, e_raise, e_for, e_body, e_body1, e_body2, e_body3, e_body4, e_body5, e_outs0, e_outs1, e_outs2, e_start0, e_start1, e_addI, e_addL, e_addI2, e_sub, e_cmp, e_eqI, e_neI, e_eqB, e_isN0, e_isN1, e_isN2, e_isN3, e_notN0, e_notN1, e_notN2, e_notN3, e_int, e_intB, e_max, e_min, e_neg, e_bits, e_lenL, e_lenT, e_lenS, e_ixL, e_ixT, e_ixS, e_at0, e_at1, e_at2, e_map, e_lstOf, e_lstOfS, e_seqOf, e_seqOfT, e_seqOfS, e_isiIB, e_isiII, e_isiTT, e_isiLL, h1, h2, h3]
end SM

namespace SM
open PySem PySem.Spec DL
open PyProof.Rows hiding St
theorem is_node_ok (h d n : Nat) (hd : d < h) (hh : h ≤ 100) (hn : n < 2 ^ d) : m_is_node [.int h, nd d n] = .ok (.bool true, false) [] := by
  have e1 := shl1 d (by omega)
  have e2 : (n : Int) ≤ 2 ^ d - 1 := by
    have : (n : Int) < (2 ^ d : Nat) := by exact_mod_cast hn
    have e := pw d
    omega
  have e3 : (d : Int) ≤ h - 1 := by omega
  simp [m_is_node, b_is_node, nd, e_tUnl, e_ext, e_ext0, e_ext1, e_ext2, e_dix, e_dix1, e_dix2, e_look, e_rev, e_rev1, e_lr1, e_lr11, e_isE1, e_isE2, e_isE3, e_isE4, e_isE5, e_isE6, e_try, e_try1, e_try2, e_eqAS, e_neAS, e_eqAI, e_neAI, e_bind_ok, e_bind_exc, e_bind_stk, e_var, e_var1, e_var2, e_move, e_move1, e_move2, e_C, e_fin1, e_bin, e_bin1, e_bin2, e_chain, e_chain1, e_chain2, e_chain3, e_chain4, e_chain5, e_if, e_if1, e_if2, e_tv, e_tv1, e_notT, e_notT1, e_andT, e_andT1, e_andT2, e_orT, e_orT1, e_orT2, e_andV, e_andV1, e_andV2, e_orV, e_orV1, e_orV2, e_notV, e_notV1, e_aNil, e_aCons, e_aCons1, e_aCons2, e_star, e_star1, e_star2, e_star3, e_lst, e_lst1, e_tup, e_tup1, e_call, e_call1, e_slot, e_slot1, e_sb, e_sb0, e_sb1, e_sb2, e_sb3, e_bs, e_bs1, e_bs2, e_lenV, e_lenV1, e_un, e_un1, e_def, e_def1, e_def2, e_def3, e_fix0, e_fix1, e_fix2, e_def4, e_def0, e_def01, e_jNil, e_jVal, e_jVal1, e_j2, e_jIo, e_jIo1, e_itD0, e_itD1, e_itD2, e_itD3, e_itJ0, e_itJ1, e_itJ2, e_itP0, e_itP1, e_itP2, e_setMany0, e_setMany1, e_nodup0, e_nodup1, e_noPart, e_part, e_part1, e_slice, e_slice1, e_slice2, e_slice3, e_lstRg, e_lstRg1, e_lstRg2, e_iSeq, e_iSeq1, e_iSeq2, e_iEn, e_iEn1, e_iEn2, e_iR1, e_iR11, e_iR2, e_iR21, e_yes, e_lc, e_lc1, e_lc2, e_wipe0, e_wipe1, e_back0, e_back1, e_back2, e_noneOwn0, e_noneOwn1, e_noneOwn2, e_noneOwn3, e_noneOwn4, e_name, e_set, e_tNil, e_tCons, e_tCons1, e_tTup, e_seq, e_seq1, e_seq2, e_seq3, e_seq4, e_seq5, e_next, e_break, e_cont, e_expr, e_expr1, e_ret, e_ret1, e_sIf, e_sIf1, e_sIf2, e_asg, e_asg1, e_asg2, e_aug, e_aug0, e_aug1, e_aug2, e_aug3, e_par, e_par1, e_par2, e_app, e_app0, e_app1, e_app2, e_setIx, e_setIx0, e_setIx1, e_setIx2, e_setIx3, e_setIx4, e_match, e_match1, e_mCase, e_mAny, e_raise, e_for, e_body, e_body1, e_body2, e_body3, e_body4, e_body5, e_outs0, e_outs1, e_outs2, e_start0, e_start1, e_addI, e_addL, e_addI2, e_sub, e_cmp, e_eqI, e_neI, e_eqB, e_isN0, e_isN1, e_isN2, e_isN3, e_notN0, e_notN1, e_notN2, e_notN3, e_int, e_intB, e_max, e_min, e_neg, e_bits, e_lenL, e_lenT, e_lenS, e_ixL, e_ixT, e_ixS, e_at0, e_at1, e_at2, e_map, e_lstOf, e_lstOfS, e_seqOf, e_seqOfT, e_seqOfS, e_isiIB, e_isiII, e_isiTT, e_isiLL, is_whole_int, e1, e2, e3]
theorem req_node (h d n : Nat) (hd : d < h) (hh : h ≤ 100) (hn : n < 2 ^ d) : m_require_node [.int h, nd d n] = .ok (.none, false) [] := by
  simp [m_require_node, b_require_node, is_node_ok h d n hd hh hn, e_tUnl, e_ext, e_ext0, e_ext1, e_ext2, e_dix, e_dix1, e_dix2, e_look, e_rev, e_rev1, e_lr1, e_lr11, e_isE1, e_isE2, e_isE3, e_isE4, e_isE5, e_isE6, e_try, e_try1, e_try2, e_eqAS, e_neAS, e_eqAI, e_neAI, e_bind_ok, e_bind_exc, e_bind_stk, e_var, e_var1, e_var2, e_move, e_move1, e_move2, e_C, e_fin1, e_bin, e_bin1, e_bin2, e_chain, e_chain1, e_chain2, e_chain3, e_chain4, e_chain5, e_if, e_if1, e_if2, e_tv, e_tv1, e_notT, e_notT1, e_andT, e_andT1, e_andT2, e_orT, e_orT1, e_orT2, e_andV, e_andV1, e_andV2, e_orV, e_orV1, e_orV2, e_notV, e_notV1, e_aNil, e_aCons, e_aCons1, e_aCons2, e_star, e_star1, e_star2, e_star3, e_lst, e_lst1, e_tup, e_tup1, e_call, e_call1, e_slot, e_slot1, e_sb, e_sb0, e_sb1, e_sb2, e_sb3, e_bs, e_bs1, e_bs2, e_lenV, e_lenV1, e_un, e_un1, e_def, e_def1, e_def2, e_def3, e_fix0, e_fix1, e_fix2, e_def4, e_def0, e_def01, e_jNil, e_jVal, e_jVal1, e_j2, e_jIo, e_jIo1, e_itD0, e_itD1, e_itD2, e_itD3, e_itJ0, e_itJ1, e_itJ2, e_itP0, e_itP1, e_itP2, e_setMany0, e_setMany1, e_nodup0, e_nodup1, e_noPart, e_part, e_part1, e_slice, e_slice1, e_slice2, e_slice3, e_lstRg, e_lstRg1, e_lstRg2, e_iSeq, e_iSeq1, e_iSeq2, e_iEn, e_iEn1, e_iEn2, e_iR1, e_iR11, e_iR2, e_iR21, e_yes, e_lc, e_lc1, e_lc2, e_wipe0, e_wipe1, e_back0, e_back1, e_back2, e_noneOwn0, e_noneOwn1, e_noneOwn2, e_noneOwn3, e_noneOwn4, e_name, e_set, e_tNil, e_tCons, e_tCons1, e_tTup, e_seq, e_seq1, e_seq2, e_seq3, e_seq4, e_seq5, e_next, e_break, e_cont, e_expr, e_expr1, e_ret, e_ret1, e_sIf, e_sIf1, e_sIf2, e_asg, e_asg1, e_asg2, e_aug, e_aug0, e_aug1, e_aug2, e_aug3, e_par, e_par1, e_par2, e_app, e_app0, e_app1, e_app2, e_setIx, e_setIx0, e_setIx1, e_setIx2, e_setIx3, e_setIx4, e_match, e_match1, e_mCase, e_mAny, e_raise, e_for, e_body, e_body1, e_body2, e_body3, e_body4, e_body5, e_outs0, e_outs1, e_outs2, e_start0, e_start1, e_addI, e_addL, e_addI2, e_sub, e_cmp, e_eqI, e_neI, e_eqB, e_isN0, e_isN1, e_isN2, e_isN3, e_notN0, e_notN1, e_notN2, e_notN3, e_int, e_intB, e_max, e_min, e_neg, e_bits, e_lenL, e_lenT, e_lenS, e_ixL, e_ixT, e_ixS, e_at0, e_at1, e_at2, e_map, e_lstOf, e_lstOfS, e_seqOf, e_seqOfT, e_seqOfS, e_isiIB, e_isiII, e_isiTT, e_isiLL]
end SM

namespace SM
open PySem PySem.Spec DL
open PyProof.Rows hiding St
theorem place_of_ok (q : Kd) (h d n : Nat) (hd : d < h) (hh : h ≤ 100) (hn : n < 2 ^ d) : m_place_of [.str (kn q), .int h, nd d n] = .ok (.int (sp q h d n : Nat), false) [] := by
  have h1 := req_tree q h (by omega) hh
  have h2 := req_node h d n hd hh hn
  have h3 := spot_k q h d n hd hh
  simp [m_place_of, b_place_of, e_tUnl, e_ext, e_ext0, e_ext1, e_ext2, e_dix, e_dix1, e_dix2, e_look, e_rev, e_rev1, e_lr1, e_lr11, e_isE1, e_isE2, e_isE3, e_isE4, e_isE5, e_isE6, e_try, e_try1, e_try2, e_eqAS, e_neAS, e_eqAI, e_neAI, e_bind_ok, e_bind_exc, e_bind_stk, e_var, e_var1, e_var2, e_move, e_move1, e_move2, e_C, e_fin1, e_bin, e_bin1, e_bin2, e_chain, e_chain1, e_chain2, e_chain3, e_chain4, e_chain5, e_if, e_if1, e_if2, e_tv, e_tv1, e_notT, e_notT1, e_andT, e_andT1, e_andT2, e_orT, e_orT1, e_orT2, e_andV, e_andV1, e_andV2, e_orV, e_orV1, e_orV2, e_notV, e_notV1, e_aNil, e_aCons, e_aCons1, e_aCons2, e_star, e_star1, e_star2, e_star3, e_lst, e_lst1, e_tup, e_tup1, e_call, e_call1, e_slot, e_slot1, e_sb, e_sb0, e_sb1, e_sb2, e_sb3, e_bs, e_bs1, e_bs2, e_lenV, e_lenV1, e_un, e_un1, e_def, e_def1, e_def2, e_def3, e_fix0, e_fix1, e_fix2, e_def4, e_def0, e_def01, e_jNil, e_jVal, e_jVal1, e_j2, e_jIo, e_jIo1, e_itD0, e_itD1, e_itD2, e_itD3, e_itJ0, e_itJ1, e_itJ2, e_itP0, e_itP1, e_itP2, e_setMany0, e_setMany1, e_nodup0, e_nodup1, e_noPart, e_part, e_part1, e_slice, e_slice1, e_slice2, e_slice3, e_lstRg, e_lstRg1, e_lstRg2, e_iSeq, e_iSeq1, e_iSeq2, e_iEn, e_iEn1, e_iEn2, e_iR1, e_iR11, e_iR2, e_iR21, e_yes, e_lc, e_lc1, e_lc2, e_wipe0, e_wipe1, e_back0, e_back1, e_back2, e_noneOwn0, e_noneOwn1, e_noneOwn2, e_noneOwn3, e_noneOwn4, e_name, e_set, e_tNil, e_tCons, e_tCons1, e_tTup, e_seq, e_seq1, e_seq2, e_seq3, e_seq4, e_seq5, e_next, e_break, e_cont, e_expr, e_expr1, e_ret, e_ret1, e_sIf, e_sIf1, e_sIf2, e_asg, e_asg1, e_asg2, e_aug, e_aug0, e_aug1, e_aug2, e_aug3, e_par, e_par1, e_par2, e_app, e_app0, e_app1, e_app2, e_setIx, e_setIx0, e_setIx1, e_setIx2, e_setIx3, e_setIx4, e_match, e_match1, e_mCase, e_mAny, e_raise, e_for, e_body, e_body1, e_body2, e_body3, e_body4, e_body5, e_outs0, e_outs1, e_outs2, e_start0, e_start1, e_addI, e_addL, e_addI2, e_sub, e_cmp, e_eqI, e_neI, e_eqB, e_isN0, e_isN1, e_isN2, e_isN3, e_notN0, e_notN1, e_notN2, e_notN3, e_int, e_intB, e_max, e_min, e_neg, e_bits, e_lenL, e_lenT, e_lenS, e_ixL, e_ixT, e_ixS, e_at0, e_at1, e_at2, e_map, e_lstOf, e_lstOfS, e_seqOf, e_seqOfT, e_seqOfS, e_isiIB, e_isiII, e_isiTT, e_isiLL, h1, h2, h3]
end SM

namespace SM
open PySem PySem.Spec DL
open PyProof.Rows hiding St
def RL (m : Nat) (r : D) : Prop := ∃ a b c : Int, r = .list [.int a, .int b, .int c] ∧ 0 ≤ a ∧ 0 ≤ b ∧ b < 2 ^ 140 ∧ 0 ≤ c ∧ c ≤ m
theorem RL.mono {m m' : Nat} {r : D} (h : RL m r) (hm : m ≤ m') : RL m' r := by
  obtain ⟨a, b, c, e, h1, h2, h3, h4, h5⟩ := h
  exact ⟨a, b, c, e, h1, h2, h3, h4, by omega⟩
theorem p18 : dPow (.int 10) (.int 18) = some (.int 1000000000000000000, false) := id rfl
theorem p38 : dPow (.int 10) (.int 38) = some (.int 100000000000000000000000000000000000000, false) := id rfl
theorem p42 : dPow (.int 10) (.int 42) = some (.int 1000000000000000000000000000000000000000000, false) := id rfl
theorem p44 : dPow (.int 10) (.int 44) = some (.int 100000000000000000000000000000000000000000000, false) := id rfl
theorem spin_ok {m : Nat} {r : D} (h : RL m r) (hm : m ≤ 1000000) (many : Int) (h0 : 0 < many) (hb : many.natAbs < 2 ^ 9000) : ∃ (v : Nat) (r' : D), m__law_spin [r, .int many] = .ok (.int v, false) [r'] ∧ (v : Int) < many ∧ RL (m + 1) r' := by
  obtain ⟨a, b, c, rfl, h1, h2, h3, h4, h5⟩ := h
  by_cases ha : 0 < a
  · have e1 := dMod_ok (i := a) h0
    have e2 := dDiv_ok (i := a) h0 hb
    have g1 := Int.emod_nonneg a (show many ≠ 0 by omega)
    have g2 := Int.emod_lt_of_pos a h0
    have g3 : 0 ≤ a / many := Int.ediv_nonneg h1 (by omega)
    refine ⟨(a % many).toNat, .list [.int (a / many), .int b, .int c], ?_, by omega, ⟨_, _, _, rfl, g3, h2, h3, h4, by omega⟩⟩
    simp [m__law_spin, b__law_spin, e_tUnl, e_ext, e_ext0, e_ext1, e_ext2, e_dix, e_dix1, e_dix2, e_look, e_rev, e_rev1, e_lr1, e_lr11, e_isE1, e_isE2, e_isE3, e_isE4, e_isE5, e_isE6, e_try, e_try1, e_try2, e_eqAS, e_neAS, e_eqAI, e_neAI, e_bind_ok, e_bind_exc, e_bind_stk, e_var, e_var1, e_var2, e_move, e_move1, e_move2, e_C, e_fin1, e_bin, e_bin1, e_bin2, e_chain, e_chain1, e_chain2, e_chain3, e_chain4, e_chain5, e_if, e_if1, e_if2, e_tv, e_tv1, e_notT, e_notT1, e_andT, e_andT1, e_andT2, e_orT, e_orT1, e_orT2, e_andV, e_andV1, e_andV2, e_orV, e_orV1, e_orV2, e_notV, e_notV1, e_aNil, e_aCons, e_aCons1, e_aCons2, e_star, e_star1, e_star2, e_star3, e_lst, e_lst1, e_tup, e_tup1, e_call, e_call1, e_slot, e_slot1, e_sb, e_sb0, e_sb1, e_sb2, e_sb3, e_bs, e_bs1, e_bs2, e_lenV, e_lenV1, e_un, e_un1, e_def, e_def1, e_def2, e_def3, e_fix0, e_fix1, e_fix2, e_def4, e_def0, e_def01, e_jNil, e_jVal, e_jVal1, e_j2, e_jIo, e_jIo1, e_itD0, e_itD1, e_itD2, e_itD3, e_itJ0, e_itJ1, e_itJ2, e_itP0, e_itP1, e_itP2, e_setMany0, e_setMany1, e_nodup0, e_nodup1, e_noPart, e_part, e_part1, e_slice, e_slice1, e_slice2, e_slice3, e_lstRg, e_lstRg1, e_lstRg2, e_iSeq, e_iSeq1, e_iSeq2, e_iEn, e_iEn1, e_iEn2, e_iR1, e_iR11, e_iR2, e_iR21, e_yes, e_lc, e_lc1, e_lc2, e_wipe0, e_wipe1, e_back0, e_back1, e_back2, e_noneOwn0, e_noneOwn1, e_noneOwn2, e_noneOwn3, e_noneOwn4, e_name, e_set, e_tNil, e_tCons, e_tCons1, e_tTup, e_seq, e_seq1, e_seq2, e_seq3, e_seq4, e_seq5, e_next, e_break, e_cont, e_expr, e_expr1, e_ret, e_ret1, e_sIf, e_sIf1, e_sIf2, e_asg, e_asg1, e_asg2, e_aug, e_aug0, e_aug1, e_aug2, e_aug3, e_par, e_par1, e_par2, e_app, e_app0, e_app1, e_app2, e_setIx, e_setIx0, e_setIx1, e_setIx2, e_setIx3, e_setIx4, e_match, e_match1, e_mCase, e_mAny, e_raise, e_for, e_body, e_body1, e_body2, e_body3, e_body4, e_body5, e_outs0, e_outs1, e_outs2, e_start0, e_start1, e_addI, e_addL, e_addI2, e_sub, e_cmp, e_eqI, e_neI, e_eqB, e_isN0, e_isN1, e_isN2, e_isN3, e_notN0, e_notN1, e_notN2, e_notN3, e_int, e_intB, e_max, e_min, e_neg, e_bits, e_lenL, e_lenT, e_lenS, e_ixL, e_ixT, e_ixS, e_at0, e_at1, e_at2, e_map, e_lstOf, e_lstOfS, e_seqOf, e_seqOfT, e_seqOfS, e_isiIB, e_isiII, e_isiTT, e_isiLL, ha, e1, e2, Int.max_eq_left g1, L2.ixN]
  · have f1 : dMul (.int 86028121) (.int (c + 1)) = some (.int (86028121 * (c + 1)), false) := dMul_ok 27 60 (by decide) (by omega) (by decide)
    have f2 : dMul (.int 67867967) (.int (c + 1)) = some (.int (67867967 * (c + 1)), false) := dMul_ok 27 60 (by decide) (by omega) (by decide)
    have f3 : dPow (.int (b + 86028121 * (c + 1))) (.int 3) = some (.int ((b + 86028121 * (c + 1)) ^ 3), false) := dPow_ok 200 (by omega) (by omega) (by decide)
    generalize hx : (b + 86028121 * (c + 1)) ^ 3 = x at *
    have f4 : dMod (.int x) (.int 1000000000000000000000000000000000000000063) = some (.int (x % 1000000000000000000000000000000000000000063), false) := dMod_ok (by omega)
    have g1 := Int.emod_nonneg x (show (1000000000000000000000000000000000000000063 : Int) ≠ 0 by omega)
    have g2 := Int.emod_lt_of_pos x (show (0 : Int) < 1000000000000000000000000000000000000000063 by omega)
    generalize hy : x % 1000000000000000000000000000000000000000063 = y at *
    have f5 : dPow (.int (y + 67867967 * (c + 1))) (.int 3) = some (.int ((y + 67867967 * (c + 1)) ^ 3), false) := dPow_ok 200 (by omega) (by omega) (by decide)
    generalize hz : (y + 67867967 * (c + 1)) ^ 3 = z at *
    have f6 : dMod (.int z) (.int 100000000000000000000000000000000000000000057) = some (.int (z % 100000000000000000000000000000000000000000057), false) := dMod_ok (by omega)
    generalize hu : z % 100000000000000000000000000000000000000000057 = u at *
    have f7 : dDiv (.int u) (.int 655331) = some (.int (u / 655331), false) := dDiv_ok (by omega) (Nat.lt_of_lt_of_le (by decide : 655331 < 2 ^ 20) (Nat.pow_le_pow_right (by omega) (by omega)))
    generalize ht : u / 655331 = t at *
    have f8 := dMod_ok (i := t) h0
    have g3 := Int.emod_nonneg t (show many ≠ 0 by omega)
    have g4 := Int.emod_lt_of_pos t h0
    refine ⟨(t % many).toNat, .list [.int a, .int b, .int (c + 1)], ?_, by omega, ⟨_, _, _, rfl, h1, h2, h3, by omega, by omega⟩⟩
    simp [m__law_spin, b__law_spin, e_tUnl, e_ext, e_ext0, e_ext1, e_ext2, e_dix, e_dix1, e_dix2, e_look, e_rev, e_rev1, e_lr1, e_lr11, e_isE1, e_isE2, e_isE3, e_isE4, e_isE5, e_isE6, e_try, e_try1, e_try2, e_eqAS, e_neAS, e_eqAI, e_neAI, e_bind_ok, e_bind_exc, e_bind_stk, e_var, e_var1, e_var2, e_move, e_move1, e_move2, e_C, e_fin1, e_bin, e_bin1, e_bin2, e_chain, e_chain1, e_chain2, e_chain3, e_chain4, e_chain5, e_if, e_if1, e_if2, e_tv, e_tv1, e_notT, e_notT1, e_andT, e_andT1, e_andT2, e_orT, e_orT1, e_orT2, e_andV, e_andV1, e_andV2, e_orV, e_orV1, e_orV2, e_notV, e_notV1, e_aNil, e_aCons, e_aCons1, e_aCons2, e_star, e_star1, e_star2, e_star3, e_lst, e_lst1, e_tup, e_tup1, e_call, e_call1, e_slot, e_slot1, e_sb, e_sb0, e_sb1, e_sb2, e_sb3, e_bs, e_bs1, e_bs2, e_lenV, e_lenV1, e_un, e_un1, e_def, e_def1, e_def2, e_def3, e_fix0, e_fix1, e_fix2, e_def4, e_def0, e_def01, e_jNil, e_jVal, e_jVal1, e_j2, e_jIo, e_jIo1, e_itD0, e_itD1, e_itD2, e_itD3, e_itJ0, e_itJ1, e_itJ2, e_itP0, e_itP1, e_itP2, e_setMany0, e_setMany1, e_nodup0, e_nodup1, e_noPart, e_part, e_part1, e_slice, e_slice1, e_slice2, e_slice3, e_lstRg, e_lstRg1, e_lstRg2, e_iSeq, e_iSeq1, e_iSeq2, e_iEn, e_iEn1, e_iEn2, e_iR1, e_iR11, e_iR2, e_iR21, e_yes, e_lc, e_lc1, e_lc2, e_wipe0, e_wipe1, e_back0, e_back1, e_back2, e_noneOwn0, e_noneOwn1, e_noneOwn2, e_noneOwn3, e_noneOwn4, e_name, e_set, e_tNil, e_tCons, e_tCons1, e_tTup, e_seq, e_seq1, e_seq2, e_seq3, e_seq4, e_seq5, e_next, e_break, e_cont, e_expr, e_expr1, e_ret, e_ret1, e_sIf, e_sIf1, e_sIf2, e_asg, e_asg1, e_asg2, e_aug, e_aug0, e_aug1, e_aug2, e_aug3, e_par, e_par1, e_par2, e_app, e_app0, e_app1, e_app2, e_setIx, e_setIx0, e_setIx1, e_setIx2, e_setIx3, e_setIx4, e_match, e_match1, e_mCase, e_mAny, e_raise, e_for, e_body, e_body1, e_body2, e_body3, e_body4, e_body5, e_outs0, e_outs1, e_outs2, e_start0, e_start1, e_addI, e_addL, e_addI2, e_sub, e_cmp, e_eqI, e_neI, e_eqB, e_isN0, e_isN1, e_isN2, e_isN3, e_notN0, e_notN1, e_notN2, e_notN3, e_int, e_intB, e_max, e_min, e_neg, e_bits, e_lenL, e_lenT, e_lenS, e_ixL, e_ixT, e_ixS, e_at0, e_at1, e_at2, e_map, e_lstOf, e_lstOfS, e_seqOf, e_seqOfT, e_seqOfS, e_isiIB, e_isiII, e_isiTT, e_isiLL, ha, p42, p44, f1, f2, f3, f4, f5, f6, f7, f8, Int.max_eq_left g3, L2.ixN]
/-- below a power of two -/
theorem spin2 {m : Nat} {r : D} (h : RL m r) (hm : m ≤ 1000000) (k : Nat) (hk : k ≤ 200) : ∃ (v : Nat) (r' : D), m__law_spin [r, .int (2 ^ k)] = .ok (.int v, false) [r'] ∧ v < 2 ^ k ∧ RL (m + 1) r' := by
  have p := p2pos k
  have q := pw k
  obtain ⟨v, r', h1, h2, h3⟩ := spin_ok h hm (2 ^ k) (by omega) (by
    rw [← q]
    exact Nat.pow_lt_pow_right (by omega) (by omega))
  exact ⟨v, r', h1, by omega, h3⟩
theorem spinN {m : Nat} {r : D} (h : RL m r) (hm : m ≤ 1000000) (k : Nat) (hk : 0 < k) (hk2 : k ≤ 1000) : ∃ (v : Nat) (r' : D), m__law_spin [r, .int k] = .ok (.int v, false) [r'] ∧ v < k ∧ RL (m + 1) r' := by
  obtain ⟨v, r', h1, h2, h3⟩ := spin_ok h hm k (by omega) (by
    have : (k : Int).natAbs < 2 ^ 10 := by omega
    exact Nat.lt_of_lt_of_le this (Nat.pow_le_pow_right (by omega) (by omega)))
  exact ⟨v, r', h1, by omega, h3⟩
theorem wound_ok (ns : List Int) (k : Nat) (hk : k ≤ 63) : ∃ r, m__law_wound [scrD ns, .int k] = .ok (r, true) [] ∧ RL 0 r := by
  -- the cell
  have key : ∀ z : Int, ∃ r, RL 0 r ∧ (sRet (DL.gLst (gaCons (gCall dMax2 (gaCons (gC (.int 0)) (gaCons (gBin dSub (gVar 2) (gBin dPow (gC (.int 10)) (gC (.int 18)))) gaNil))) (gaCons (gBin dAdd (gBin dAdd (gBin dMul (gBin dMod (gCall dInt (gaCons (gVar 2) gaNil)) (gBin dAdd (gBin dPow (gC (.int 10)) (gC (.int 38))) (gC (.int 133)))) (gC (.int 67))) (gBin dMul (gC (.int 141650939)) (gVar 1))) (gC (.int 23))) (gaCons (gC (.int 0)) gaNil)))))
      [some (false, scrD ns), some (false, .int k), some (false, .int z)] = .ok (.rt r true) [some (false, scrD ns), some (false, .int k), some (false, .int z)] := by
    intro z
    have f1 : dMod (.int z) (.int 100000000000000000000000000000000000133) = some (.int (z % 100000000000000000000000000000000000133), false) := dMod_ok (by omega)
    have g1 := Int.emod_nonneg z (show (100000000000000000000000000000000000133 : Int) ≠ 0 by omega)
    have g2 := Int.emod_lt_of_pos z (show (0 : Int) < 100000000000000000000000000000000000133 by omega)
    generalize z % 100000000000000000000000000000000000133 = y at *
    have f2 : dMul (.int y) (.int 67) = some (.int (y * 67), false) := dMul_ok 130 10 (by omega) (by decide) (by decide)
    have f3 : dMul (.int 141650939) (.int (k : Int)) = some (.int (141650939 * (k : Int)), false) := dMul_ok 30 10 (by decide) (by omega) (by decide)
    refine ⟨.list [.int (if z - 1000000000000000000 > 0 then z - 1000000000000000000 else 0), .int (y * 67 + 141650939 * (k : Int) + 23), .int 0], ⟨_, _, _, rfl, by split <;> omega, by omega, by omega, by omega, by omega⟩, ?_⟩
    simp [e_tUnl, e_ext, e_ext0, e_ext1, e_ext2, e_dix, e_dix1, e_dix2, e_look, e_rev, e_rev1, e_lr1, e_lr11, e_isE1, e_isE2, e_isE3, e_isE4, e_isE5, e_isE6, e_try, e_try1, e_try2, e_eqAS, e_neAS, e_eqAI, e_neAI, e_bind_ok, e_bind_exc, e_bind_stk, e_var, e_var1, e_var2, e_move, e_move1, e_move2, e_C, e_fin1, e_bin, e_bin1, e_bin2, e_chain, e_chain1, e_chain2, e_chain3, e_chain4, e_chain5, e_if, e_if1, e_if2, e_tv, e_tv1, e_notT, e_notT1, e_andT, e_andT1, e_andT2, e_orT, e_orT1, e_orT2, e_andV, e_andV1, e_andV2, e_orV, e_orV1, e_orV2, e_notV, e_notV1, e_aNil, e_aCons, e_aCons1, e_aCons2, e_star, e_star1, e_star2, e_star3, e_lst, e_lst1, e_tup, e_tup1, e_call, e_call1, e_slot, e_slot1, e_sb, e_sb0, e_sb1, e_sb2, e_sb3, e_bs, e_bs1, e_bs2, e_lenV, e_lenV1, e_un, e_un1, e_def, e_def1, e_def2, e_def3, e_fix0, e_fix1, e_fix2, e_def4, e_def0, e_def01, e_jNil, e_jVal, e_jVal1, e_j2, e_jIo, e_jIo1, e_itD0, e_itD1, e_itD2, e_itD3, e_itJ0, e_itJ1, e_itJ2, e_itP0, e_itP1, e_itP2, e_setMany0, e_setMany1, e_nodup0, e_nodup1, e_noPart, e_part, e_part1, e_slice, e_slice1, e_slice2, e_slice3, e_lstRg, e_lstRg1, e_lstRg2, e_iSeq, e_iSeq1, e_iSeq2, e_iEn, e_iEn1, e_iEn2, e_iR1, e_iR11, e_iR2, e_iR21, e_yes, e_lc, e_lc1, e_lc2, e_wipe0, e_wipe1, e_back0, e_back1, e_back2, e_noneOwn0, e_noneOwn1, e_noneOwn2, e_noneOwn3, e_noneOwn4, e_name, e_set, e_tNil, e_tCons, e_tCons1, e_tTup, e_seq, e_seq1, e_seq2, e_seq3, e_seq4, e_seq5, e_next, e_break, e_cont, e_expr, e_expr1, e_ret, e_ret1, e_sIf, e_sIf1, e_sIf2, e_asg, e_asg1, e_asg2, e_aug, e_aug0, e_aug1, e_aug2, e_aug3, e_par, e_par1, e_par2, e_app, e_app0, e_app1, e_app2, e_setIx, e_setIx0, e_setIx1, e_setIx2, e_setIx3, e_setIx4, e_match, e_match1, e_mCase, e_mAny, e_raise, e_for, e_body, e_body1, e_body2, e_body3, e_body4, e_body5, e_outs0, e_outs1, e_outs2, e_start0, e_start1, e_addI, e_addL, e_addI2, e_sub, e_cmp, e_eqI, e_neI, e_eqB, e_isN0, e_isN1, e_isN2, e_isN3, e_notN0, e_notN1, e_notN2, e_notN3, e_int, e_intB, e_max, e_min, e_neg, e_bits, e_lenL, e_lenT, e_lenS, e_ixL, e_ixT, e_ixS, e_at0, e_at1, e_at2, e_map, e_lstOf, e_lstOfS, e_seqOf, e_seqOfT, e_seqOfS, e_isiIB, e_isiII, e_isiTT, e_isiLL, p18, p38, f1, f2, f3, l3]
  by_cases hl : k < ns.length
  · obtain ⟨r, h1, h2⟩ := key ns[k]
    have e1 : dIx (scrD ns) (.int (k : Int)) = some (.int ns[k], false) := by
      show (L2.atI (ns.map PyData.int) k).map (·, false) = _
      rw [at_nat (x := PyData.int ns[k]) (by rw [List.getElem?_map, List.getElem?_eq_getElem hl]; rfl)]
      rfl
    have e2 : dLen [scrD ns] = some (.int ns.length, false) := by
      show some (PyData.int ((ns.map PyData.int).length : Nat), false) = _
      rw [List.length_map]
    refine ⟨r, ?_, h1⟩
    simp only [m__law_wound, b__law_wound]
    rw [e_body]
    simp [e_start0, e_start1, e_seq, e_asg, e_C, e_bind_ok, e_asg1, e_asg2, e_name, e_set, e_seq1, e_sIf, e_tv, e_bin, e_var, e_var1, e_bin1, e_lenV, e_slot, e_slot1, e_lenV1, e2, e_sb3, e_bin2, e_cmp, e_fin1, e_tv1, hl, e_sIf1, e_sb, e_sb0, e_sb1, e_sb2, e1, h2, e_body2, e_outs0, e_body4, e_next, e_sIf2]
  · obtain ⟨r, h1, h2⟩ := key 0
    have e2 : dLen [scrD ns] = some (.int ns.length, false) := by
      show some (PyData.int ((ns.map PyData.int).length : Nat), false) = _
      rw [List.length_map]
    refine ⟨r, ?_, h1⟩
    simp only [m__law_wound, b__law_wound]
    rw [e_body]
    simp [e_start0, e_start1, e_seq, e_asg, e_C, e_bind_ok, e_asg1, e_asg2, e_name, e_set, e_seq1, e_sIf, e_tv, e_bin, e_var, e_var1, e_bin1, e_lenV, e_slot, e_slot1, e_lenV1, e2, e_sb3, e_bin2, e_cmp, e_fin1, e_tv1, hl, e_sIf1, e_sb, e_sb0, e_sb1, e_sb2, h2, e_body2, e_outs0, e_body4, e_next, e_sIf2]
end SM

namespace SM
open PySem PySem.Spec DL
open PyProof.Rows hiding St
theorem bt_pow (p j : Nat) : bt (2 ^ p) j = if j = p then 1 else 0 := by
  unfold bt
  by_cases c : j = p
  · subst c
    rw [if_pos rfl, Nat.div_self (p2pos _)]
  · rw [if_neg c]
    by_cases c2 : j < p
    · rw [show 2 ^ p = 2 ^ (p - j) * 2 ^ j by rw [← Nat.pow_add, show p - j + j = p by omega], Nat.mul_div_cancel _ (p2pos _), p2s (show p - j = p - j - 1 + 1 by omega)]
      omega
    · rw [Nat.div_eq_of_lt (Nat.pow_lt_pow_right (by omega) (by omega))]
theorem sN_pow (d i : Nat) (hi : i < d) (st : Nat → Nat) : ∀ m, m ≤ d → sN d (2 ^ (d - 1 - i)) st m = if i < m then st i else 0
  | 0, _ => by simp [sN]
  | m + 1, hm => by
    have ih := sN_pow d i hi st m (by omega)
    unfold sN
    rw [ih, bt_pow]
    by_cases c : m = i
    · subst c
      rw [if_neg (by omega), if_pos rfl, if_pos (by omega)]
      omega
    · rw [if_neg (show ¬ d - 1 - m = d - 1 - i by omega)]
      by_cases c2 : i < m
      · rw [if_pos c2, if_pos (by omega)]; omega
      · rw [if_neg c2, if_neg (by omega)]; omega
theorem fall_tl {d : Nat} {st B : Nat → Nat} (f : Fall d st B) : ∀ n i, i + n = d → tl st i n < B i
  | 0, i, h => by
    rw [show i = d by omega]
    exact f.1
  | n + 1, i, h => by
    have ih := fall_tl f n (i + 1) (by omega)
    have s := (f.2 i (by omega)).2
    unfold tl
    omega
theorem SmB {i : Int} (h : i.natAbs < 2 ^ 320) : Sm 101 0 (.int i) := by
  have h10 : i.natAbs < 10 ^ 100 := Nat.lt_of_lt_of_le h (by exact (by decide +kernel : (2 : Nat) ^ 320 ≤ 10 ^ 100))
  refine ⟨?_, rfl, rfl, Nat.le_refl _, ?_⟩
  · have a : i.natAbs.log2 < 1920 := by
      by_cases z : i.natAbs = 0
      · rw [z]; decide
      · refine (Nat.log2_lt z).mpr (Nat.lt_of_lt_of_le h (Nat.pow_le_pow_right (by omega) (by omega)))
    simp [PyData.showable, a]
  · have e := int_text_length_le10 (k := 100) (by decide) h10
    show (Str.ofString (toString i)).length ≤ 101
    rw [PySem.ofString_length]; exact e
theorem ws_b (k : Kd) (h d i : Nat) (hd : d < h) (hi : i < d) : ws k h d i < 2 ^ h := by
  obtain ⟨B, f, b⟩ := fall_kd k h d hd
  have aux : ∀ j, j ≤ d → B j ≤ B 0 := by
    intro j
    induction j with
    | zero => intro _; exact Nat.le_refl _
    | succ j ih =>
      intro hj
      have := (f.2 j (by omega))
      have := ih (by omega)
      omega
  have a := aux i (by omega)
  have s := (f.2 i hi).2
  omega
theorem num_lt (k : Kd) (h d : Nat) (hd : d < h) : num k h d < 2 ^ h := by
  have a := (bij_kd k h).lt d 0 hd (p2pos _)
  have b : sp k h d 0 = num k h d := by unfold sp; rw [sN_zero]; rfl
  omega
/-- the pair that is told -/
def pairW (k : Kd) (h d : Nat) : D := .tuple [.int (num k h d : Nat), .list (wsD d (wz k h d))]
theorem pair_sm (k : Kd) (h d : Nat) (hd : d < h) (hh : h ≤ 100) : Sm 1000000 2 (pairW k h d) := by
  have e1 : 2 ^ h < 2 ^ 320 := Nat.pow_lt_pow_right (by omega) (by omega)
  have a := SmB (i := ((num k h d : Nat) : Int)) (by rw [Int.natAbs_natCast]; have := num_lt k h d hd; omega)
  have b := Sm.list (k := 101) (j := 0) (xs := wsD d (wz k h d)) (fun x hx => by
    obtain ⟨i, hi⟩ := List.getElem?_of_mem hx
    obtain ⟨h1, rfl⟩ := wsD_get hi
    have := ws_b k h d i hd h1
    exact SmB (by unfold wz; rw [Int.natAbs_natCast]; omega))
  rw [wsD_len] at b
  have c := Sm.tuple (k := 20000) (j := 1) (xs := [.int (num k h d : Nat), .list (wsD d (wz k h d))]) (fun x hx => by
    simp only [List.mem_cons, List.not_mem_nil, or_false] at hx
    rcases hx with rfl | rfl
    · exact a.mono (by omega) (by omega)
    · exact b.mono (by omega) (by omega))
  exact c.mono (by simp) (by omega)
theorem thaw_nx {is : List Nat} {g : Sl → SV} {δ δF δ' : Sl} (h1 : fzL δ is = some δF) (h2 : g δF = .ok .nx δ') (h3 : lists δ' is = true) (h4 : others δ' is = true) : sThaw is g δ = .ok .nx (thL δ' is) := by
  simp [sThaw, h1, h2, h3, h4]
theorem wsD_flat (d : Nat) (w : Nat → Int) : (wsD d w).all flatD = true := by
  unfold wsD
  rw [List.all_map]
  exact List.all_eq_true.mpr fun i _ => rfl
/-- a slot with a number, or with nothing -/
def FI (x : Option (Bool × D)) : Prop := x = none ∨ ∃ z : Int, x = some (false, PyData.int (z))
theorem oth_56 {a b c h d n : Int} {k : Str} {A B : List D} {x7 x8 x9 x10 x11 x12 : Option (Bool × D)} (h7 : FI x7) (h8 : FI x8) (h9 : FI x9) (h10 : FI x10) (h11 : FI x11) (h12 : FI x12) :
    others [some (true, PyData.list [.int a, .int b, .int c]), some (false, PyData.str (k)), some (false, PyData.int (h)), some (false, PyData.int (d)), some (false, PyData.int (n)), some (false, PyData.list (A)), some (false, PyData.list (B)), x7, x8, x9, x10, x11, x12] [5, 6] = true := by
  rcases h7 with rfl | ⟨z7, rfl⟩ <;> rcases h8 with rfl | ⟨z8, rfl⟩ <;> rcases h9 with rfl | ⟨z9, rfl⟩ <;> rcases h10 with rfl | ⟨z10, rfl⟩ <;> rcases h11 with rfl | ⟨z11, rfl⟩ <;> rcases h12 with rfl | ⟨z12, rfl⟩ <;> rfl
theorem oth_6 {a b c h d n : Int} {k : Str} {A B : List D} {x7 x8 x9 x10 x11 x12 : Option (Bool × D)} (hA : A.all flatD = true) (h7 : FI x7) (h8 : FI x8) (h9 : FI x9) (h10 : FI x10) (h11 : FI x11) (h12 : FI x12) :
    others [some (true, PyData.list [.int a, .int b, .int c]), some (false, PyData.str (k)), some (false, PyData.int (h)), some (false, PyData.int (d)), some (false, PyData.int (n)), some (true, PyData.list (A)), some (false, PyData.list (B)), x7, x8, x9, x10, x11, x12] [6] = true := by
  rcases h7 with rfl | ⟨z7, rfl⟩ <;> rcases h8 with rfl | ⟨z8, rfl⟩ <;> rcases h9 with rfl | ⟨z9, rfl⟩ <;> rcases h10 with rfl | ⟨z10, rfl⟩ <;> rcases h11 with rfl | ⟨z11, rfl⟩ <;> rcases h12 with rfl | ⟨z12, rfl⟩ <;>
    (show ((true && (true && (true && (true && (true && (A.all flatD && _)))))) = true); rw [hA]; rfl)
theorem oth_5 {a b c h d n : Int} {k : Str} {A B : List D} {x7 x8 x9 x10 x11 x12 : Option (Bool × D)} (hB : B.all flatD = true) (h7 : FI x7) (h8 : FI x8) (h9 : FI x9) (h10 : FI x10) (h11 : FI x11) (h12 : FI x12) :
    others [some (true, PyData.list [.int a, .int b, .int c]), some (false, PyData.str (k)), some (false, PyData.int (h)), some (false, PyData.int (d)), some (false, PyData.int (n)), some (false, PyData.list (A)), some (true, PyData.list (B)), x7, x8, x9, x10, x11, x12] [5] = true := by
  rcases h7 with rfl | ⟨z7, rfl⟩ <;> rcases h8 with rfl | ⟨z8, rfl⟩ <;> rcases h9 with rfl | ⟨z9, rfl⟩ <;> rcases h10 with rfl | ⟨z10, rfl⟩ <;> rcases h11 with rfl | ⟨z11, rfl⟩ <;> rcases h12 with rfl | ⟨z12, rfl⟩ <;>
    (show ((true && (true && (true && (true && (true && (true && (B.all flatD && _))))))) = true); rw [hB]; rfl)
end SM

namespace SM
open PySem PySem.Spec DL
open PyProof.Rows hiding St
theorem due_ok (k : Kd) (h d : Nat) (hd : d < h) (hh : h ≤ 100) (r N T : D) : ∃ x7, FI x7 ∧ forD (gtName [0] 7) lb_right_1 (rgN 0 d) [some (true, r), some (false, PyData.str (kn k)), some (false, PyData.int (h)), some (false, PyData.int (d)), some (false, N), some (true, T), some (true, PyData.list []), none, none, none, none, none, none]
    = .ok .nx [some (true, r), some (false, PyData.str (kn k)), some (false, PyData.int (h)), some (false, PyData.int (d)), some (false, N), some (true, T), some (true, PyData.list (wsD d (wz k h d))), x7, none, none, none, none, none] := by
  have ln : (rgN 0 d).length = d := by simp [rgN]
  obtain ⟨δ', h1, x7, rfl, f7⟩ := forD_inv (tgt := gtName [0] 7) (body := lb_right_1) (ds := rgN 0 d) (δ := [some (true, r), some (false, PyData.str (kn k)), some (false, PyData.int (h)), some (false, PyData.int (d)), some (false, N), some (true, T), some (true, PyData.list []), none, none, none, none, none, none])
    (fun i δ => ∃ x7, δ = [some (true, r), some (false, PyData.str (kn k)), some (false, PyData.int (h)), some (false, PyData.int (d)), some (false, N), some (true, T), some (true, PyData.list (wsD i (wz k h d))), x7, none, none, none, none, none] ∧ FI x7) ⟨none, rfl, .inl rfl⟩ (by
      rintro i x δ hx ⟨x7, rfl, f7⟩
      obtain ⟨hi, e⟩ := List.getElem?_eq_some_iff.mp hx
      rw [ln] at hi
      have e : x = .int (i : Int) := by rw [← e]; simp [rgN]
      subst e
      have hp : 2 ^ (d - 1 - i) < 2 ^ d := Nat.pow_lt_pow_right (by omega) (by omega)
      have p1 := place_of_ok k h d (2 ^ (d - 1 - i)) hd hh hp
      have p0 := place_of_ok k h d 0 hd hh (p2pos _)
      have sh : dShl (.int 1) (.int ((d : Int) - 1 - (i : Int))) = some (.int ((2 ^ (d - 1 - i) : Nat) : Int), false) := by
        rw [show (d : Int) - 1 - (i : Int) = ((d - 1 - i : Nat) : Int) by omega, pw]
        exact shl1 _ (by omega)
      have df : ((sp k h d (2 ^ (d - 1 - i)) : Nat) : Int) - ((sp k h d 0 : Nat) : Int) = wz k h d i := by
        unfold sp wz
        rw [sN_pow d i hi _ d (Nat.le_refl _), sN_zero, if_pos hi]
        omega
      have ap : wsD (i + 1) (wz k h d) = wsD i (wz k h d) ++ [.int (wz k h d i)] := by
        unfold wsD
        rw [List.range_succ, List.map_append]
        rfl
      have ln2 : (wsD i (wz k h d)).length < 16777216 := by rw [wsD_len]; omega
      have ln3 : (wsD i (wz k h d)).length < LINE := ln2
      have ln4 : (wsD i (wz k h d)).length + 1 ≤ LINE := ln2
      rw [ap, ← df]
      unfold nd at p1 p0
      have p0 : m_place_of [.str (kn k), .int h, .tuple [.int d, .int 0]] = .ok (.int (sp k h d 0 : Nat), false) [] := p0
      generalize wsD i (wz k h d) = WS at *
      generalize ((sp k h d (2 ^ (d - 1 - i)) : Nat) : Int) = S1 at *
      generalize ((sp k h d 0 : Nat) : Int) = S0 at *
      generalize ((2 ^ (d - 1 - i) : Nat) : Int) = P at *
      refine ⟨_, by simp [e_tUnl, e_ext, e_ext0, e_ext1, e_ext2, e_dix, e_dix1, e_dix2, e_look, e_rev, e_rev1, e_lr1, e_lr11, e_isE1, e_isE2, e_isE3, e_isE4, e_isE5, e_isE6, e_try, e_try1, e_try2, e_eqAS, e_neAS, e_eqAI, e_neAI, e_bind_ok, e_bind_exc, e_bind_stk, e_var, e_var1, e_var2, e_move, e_move1, e_move2, e_C, e_fin1, e_bin, e_bin1, e_bin2, e_chain, e_chain1, e_chain2, e_chain3, e_chain4, e_chain5, e_if, e_if1, e_if2, e_tv, e_tv1, e_notT, e_notT1, e_andT, e_andT1, e_andT2, e_orT, e_orT1, e_orT2, e_andV, e_andV1, e_andV2, e_orV, e_orV1, e_orV2, e_notV, e_notV1, e_aNil, e_aCons, e_aCons1, e_aCons2, e_star, e_star1, e_star2, e_star3, e_lst, e_lst1, e_tup, e_tup1, e_call, e_call1, e_slot, e_slot1, e_sb, e_sb0, e_sb1, e_sb2, e_sb3, e_bs, e_bs1, e_bs2, e_lenV, e_lenV1, e_un, e_un1, e_def, e_def1, e_def2, e_def3, e_fix0, e_fix1, e_fix2, e_def4, e_def0, e_def01, e_jNil, e_jVal, e_jVal1, e_j2, e_jIo, e_jIo1, e_itD0, e_itD1, e_itD2, e_itD3, e_itJ0, e_itJ1, e_itJ2, e_itP0, e_itP1, e_itP2, e_setMany0, e_setMany1, e_nodup0, e_nodup1, e_noPart, e_part, e_part1, e_slice, e_slice1, e_slice2, e_slice3, e_lstRg, e_lstRg1, e_lstRg2, e_iSeq, e_iSeq1, e_iSeq2, e_iEn, e_iEn1, e_iEn2, e_iR1, e_iR11, e_iR2, e_iR21, e_yes, e_lc, e_lc1, e_lc2, e_wipe0, e_wipe1, e_back0, e_back1, e_back2, e_noneOwn0, e_noneOwn1, e_noneOwn2, e_noneOwn3, e_noneOwn4, e_name, e_set, e_tNil, e_tCons, e_tCons1, e_tTup, e_seq, e_seq1, e_seq2, e_seq3, e_seq4, e_seq5, e_next, e_break, e_cont, e_expr, e_expr1, e_ret, e_ret1, e_sIf, e_sIf1, e_sIf2, e_asg, e_asg1, e_asg2, e_aug, e_aug0, e_aug1, e_aug2, e_aug3, e_par, e_par1, e_par2, e_app, e_app0, e_app1, e_app2, e_setIx, e_setIx0, e_setIx1, e_setIx2, e_setIx3, e_setIx4, e_match, e_match1, e_mCase, e_mAny, e_raise, e_for, e_body, e_body1, e_body2, e_body3, e_body4, e_body5, e_outs0, e_outs1, e_outs2, e_start0, e_start1, e_addI, e_addL, e_addI2, e_sub, e_cmp, e_eqI, e_neI, e_eqB, e_isN0, e_isN1, e_isN2, e_isN3, e_notN0, e_notN1, e_notN2, e_notN3, e_int, e_intB, e_max, e_min, e_neg, e_bits, e_lenL, e_lenT, e_lenS, e_ixL, e_ixT, e_ixS, e_at0, e_at1, e_at2, e_map, e_lstOf, e_lstOfS, e_seqOf, e_seqOfT, e_seqOfS, e_isiIB, e_isiII, e_isiTT, e_isiLL]; rfl, _, by simp [lb_right_1, e_tUnl, e_ext, e_ext0, e_ext1, e_ext2, e_dix, e_dix1, e_dix2, e_look, e_rev, e_rev1, e_lr1, e_lr11, e_isE1, e_isE2, e_isE3, e_isE4, e_isE5, e_isE6, e_try, e_try1, e_try2, e_eqAS, e_neAS, e_eqAI, e_neAI, e_bind_ok, e_bind_exc, e_bind_stk, e_var, e_var1, e_var2, e_move, e_move1, e_move2, e_C, e_fin1, e_bin, e_bin1, e_bin2, e_chain, e_chain1, e_chain2, e_chain3, e_chain4, e_chain5, e_if, e_if1, e_if2, e_tv, e_tv1, e_notT, e_notT1, e_andT, e_andT1, e_andT2, e_orT, e_orT1, e_orT2, e_andV, e_andV1, e_andV2, e_orV, e_orV1, e_orV2, e_notV, e_notV1, e_aNil, e_aCons, e_aCons1, e_aCons2, e_star, e_star1, e_star2, e_star3, e_lst, e_lst1, e_tup, e_tup1, e_call, e_call1, e_slot, e_slot1, e_sb, e_sb0, e_sb1, e_sb2, e_sb3, e_bs, e_bs1, e_bs2, e_lenV, e_lenV1, e_un, e_un1, e_def, e_def1, e_def2, e_def3, e_fix0, e_fix1, e_fix2, e_def4, e_def0, e_def01, e_jNil, e_jVal, e_jVal1, e_j2, e_jIo, e_jIo1, e_itD0, e_itD1, e_itD2, e_itD3, e_itJ0, e_itJ1, e_itJ2, e_itP0, e_itP1, e_itP2, e_setMany0, e_setMany1, e_nodup0, e_nodup1, e_noPart, e_part, e_part1, e_slice, e_slice1, e_slice2, e_slice3, e_lstRg, e_lstRg1, e_lstRg2, e_iSeq, e_iSeq1, e_iSeq2, e_iEn, e_iEn1, e_iEn2, e_iR1, e_iR11, e_iR2, e_iR21, e_yes, e_lc, e_lc1, e_lc2, e_wipe0, e_wipe1, e_back0, e_back1, e_back2, e_noneOwn0, e_noneOwn1, e_noneOwn2, e_noneOwn3, e_noneOwn4, e_name, e_set, e_tNil, e_tCons, e_tCons1, e_tTup, e_seq, e_seq1, e_seq2, e_seq3, e_seq4, e_seq5, e_next, e_break, e_cont, e_expr, e_expr1, e_ret, e_ret1, e_sIf, e_sIf1, e_sIf2, e_asg, e_asg1, e_asg2, e_aug, e_aug0, e_aug1, e_aug2, e_aug3, e_par, e_par1, e_par2, e_app, e_app0, e_app1, e_app2, e_setIx, e_setIx0, e_setIx1, e_setIx2, e_setIx3, e_setIx4, e_match, e_match1, e_mCase, e_mAny, e_raise, e_for, e_body, e_body1, e_body2, e_body3, e_body4, e_body5, e_outs0, e_outs1, e_outs2, e_start0, e_start1, e_addI, e_addL, e_addI2, e_sub, e_cmp, e_eqI, e_neI, e_eqB, e_isN0, e_isN1, e_isN2, e_isN3, e_notN0, e_notN1, e_notN2, e_notN3, e_int, e_intB, e_max, e_min, e_neg, e_bits, e_lenL, e_lenT, e_lenS, e_ixL, e_ixT, e_ixS, e_at0, e_at1, e_at2, e_map, e_lstOf, e_lstOfS, e_seqOf, e_seqOfT, e_seqOfS, e_isiIB, e_isiII, e_isiTT, e_isiLL, p1, p0, sh, l2, ln2, ln3, ln4], ⟨some (false, PyData.int ((i : Int))), rfl, .inr ⟨_, rfl⟩⟩⟩)
  rw [ln] at h1
  exact ⟨x7, f7, h1⟩
theorem rest_ok (k : Kd) (h d : Nat) (hd : d < h) (r N T : D) (W : List D) (x7 : Option (Bool × D)) : ∃ x8 x9, FI x8 ∧ FI x9 ∧ forD (gtName [6, 0] 9) lb_right_2 (wsD d (wz k h d)).reverse [some (true, r), some (false, PyData.str (kn k)), some (false, PyData.int (h)), some (false, PyData.int (d)), some (false, N), some (true, T), some (false, PyData.list (W)), x7, some (false, PyData.int (0)), none, none, none, none]
    = .ok .nx [some (true, r), some (false, PyData.str (kn k)), some (false, PyData.int (h)), some (false, PyData.int (d)), some (false, N), some (true, T), some (false, PyData.list (W)), x7, x8, x9, none, none, none] := by
  obtain ⟨B, f, _⟩ := fall_kd k h d hd
  obtain ⟨δ', h1, x9, rfl, f9⟩ := forD_inv (tgt := gtName [6, 0] 9) (body := lb_right_2) (ds := (wsD d (wz k h d)).reverse) (δ := [some (true, r), some (false, PyData.str (kn k)), some (false, PyData.int (h)), some (false, PyData.int (d)), some (false, N), some (true, T), some (false, PyData.list (W)), x7, some (false, PyData.int (0)), none, none, none, none])
    (fun i δ => ∃ x9, δ = [some (true, r), some (false, PyData.str (kn k)), some (false, PyData.int (h)), some (false, PyData.int (d)), some (false, N), some (true, T), some (false, PyData.list (W)), x7, some (false, PyData.int ((tl (ws k h d) (d - i) i : Nat))), x9, none, none, none] ∧ FI x9) ⟨none, rfl, .inl rfl⟩ (by
      rintro i x δ hx ⟨x9, rfl, f9⟩
      have hi : i < d := by
        have := (List.getElem?_eq_some_iff.mp hx).1
        rw [List.length_reverse, wsD_len] at this
        exact this
      rw [List.getElem?_reverse (by rw [wsD_len]; exact hi), wsD_len] at hx
      obtain ⟨_, rfl⟩ := wsD_get hx
      have s := f.2 (d - 1 - i) (by omega)
      have t := fall_tl f i (d - i) (by omega)
      rw [show d - 1 - i + 1 = d - i by omega] at s
      have c1 : ¬ (wz k h d (d - 1 - i) ≤ ((tl (ws k h d) (d - i) i : Nat) : Int)) := by unfold wz; omega
      have e : ((tl (ws k h d) (d - (i + 1)) (i + 1) : Nat) : Int) = ((tl (ws k h d) (d - i) i : Nat) : Int) + wz k h d (d - 1 - i) := by
        rw [show d - (i + 1) = d - 1 - i by omega]
        have e1 : tl (ws k h d) (d - 1 - i) (i + 1) = ws k h d (d - 1 - i) + tl (ws k h d) (d - 1 - i + 1) i := rfl
        rw [e1, show d - 1 - i + 1 = d - i by omega]
        unfold wz
        omega
      rw [e]
      generalize ((tl (ws k h d) (d - i) i : Nat) : Int) = T1 at *
      generalize wz k h d (d - 1 - i) = W1 at *
      refine ⟨_, by simp [e_tUnl, e_ext, e_ext0, e_ext1, e_ext2, e_dix, e_dix1, e_dix2, e_look, e_rev, e_rev1, e_lr1, e_lr11, e_isE1, e_isE2, e_isE3, e_isE4, e_isE5, e_isE6, e_try, e_try1, e_try2, e_eqAS, e_neAS, e_eqAI, e_neAI, e_bind_ok, e_bind_exc, e_bind_stk, e_var, e_var1, e_var2, e_move, e_move1, e_move2, e_C, e_fin1, e_bin, e_bin1, e_bin2, e_chain, e_chain1, e_chain2, e_chain3, e_chain4, e_chain5, e_if, e_if1, e_if2, e_tv, e_tv1, e_notT, e_notT1, e_andT, e_andT1, e_andT2, e_orT, e_orT1, e_orT2, e_andV, e_andV1, e_andV2, e_orV, e_orV1, e_orV2, e_notV, e_notV1, e_aNil, e_aCons, e_aCons1, e_aCons2, e_star, e_star1, e_star2, e_star3, e_lst, e_lst1, e_tup, e_tup1, e_call, e_call1, e_slot, e_slot1, e_sb, e_sb0, e_sb1, e_sb2, e_sb3, e_bs, e_bs1, e_bs2, e_lenV, e_lenV1, e_un, e_un1, e_def, e_def1, e_def2, e_def3, e_fix0, e_fix1, e_fix2, e_def4, e_def0, e_def01, e_jNil, e_jVal, e_jVal1, e_j2, e_jIo, e_jIo1, e_itD0, e_itD1, e_itD2, e_itD3, e_itJ0, e_itJ1, e_itJ2, e_itP0, e_itP1, e_itP2, e_setMany0, e_setMany1, e_nodup0, e_nodup1, e_noPart, e_part, e_part1, e_slice, e_slice1, e_slice2, e_slice3, e_lstRg, e_lstRg1, e_lstRg2, e_iSeq, e_iSeq1, e_iSeq2, e_iEn, e_iEn1, e_iEn2, e_iR1, e_iR11, e_iR2, e_iR21, e_yes, e_lc, e_lc1, e_lc2, e_wipe0, e_wipe1, e_back0, e_back1, e_back2, e_noneOwn0, e_noneOwn1, e_noneOwn2, e_noneOwn3, e_noneOwn4, e_name, e_set, e_tNil, e_tCons, e_tCons1, e_tTup, e_seq, e_seq1, e_seq2, e_seq3, e_seq4, e_seq5, e_next, e_break, e_cont, e_expr, e_expr1, e_ret, e_ret1, e_sIf, e_sIf1, e_sIf2, e_asg, e_asg1, e_asg2, e_aug, e_aug0, e_aug1, e_aug2, e_aug3, e_par, e_par1, e_par2, e_app, e_app0, e_app1, e_app2, e_setIx, e_setIx0, e_setIx1, e_setIx2, e_setIx3, e_setIx4, e_match, e_match1, e_mCase, e_mAny, e_raise, e_for, e_body, e_body1, e_body2, e_body3, e_body4, e_body5, e_outs0, e_outs1, e_outs2, e_start0, e_start1, e_addI, e_addL, e_addI2, e_sub, e_cmp, e_eqI, e_neI, e_eqB, e_isN0, e_isN1, e_isN2, e_isN3, e_notN0, e_notN1, e_notN2, e_notN3, e_int, e_intB, e_max, e_min, e_neg, e_bits, e_lenL, e_lenT, e_lenS, e_ixL, e_ixT, e_ixS, e_at0, e_at1, e_at2, e_map, e_lstOf, e_lstOfS, e_seqOf, e_seqOfT, e_seqOfS, e_isiIB, e_isiII, e_isiTT, e_isiLL]; rfl, _, by simp [lb_right_2, e_tUnl, e_ext, e_ext0, e_ext1, e_ext2, e_dix, e_dix1, e_dix2, e_look, e_rev, e_rev1, e_lr1, e_lr11, e_isE1, e_isE2, e_isE3, e_isE4, e_isE5, e_isE6, e_try, e_try1, e_try2, e_eqAS, e_neAS, e_eqAI, e_neAI, e_bind_ok, e_bind_exc, e_bind_stk, e_var, e_var1, e_var2, e_move, e_move1, e_move2, e_C, e_fin1, e_bin, e_bin1, e_bin2, e_chain, e_chain1, e_chain2, e_chain3, e_chain4, e_chain5, e_if, e_if1, e_if2, e_tv, e_tv1, e_notT, e_notT1, e_andT, e_andT1, e_andT2, e_orT, e_orT1, e_orT2, e_andV, e_andV1, e_andV2, e_orV, e_orV1, e_orV2, e_notV, e_notV1, e_aNil, e_aCons, e_aCons1, e_aCons2, e_star, e_star1, e_star2, e_star3, e_lst, e_lst1, e_tup, e_tup1, e_call, e_call1, e_slot, e_slot1, e_sb, e_sb0, e_sb1, e_sb2, e_sb3, e_bs, e_bs1, e_bs2, e_lenV, e_lenV1, e_un, e_un1, e_def, e_def1, e_def2, e_def3, e_fix0, e_fix1, e_fix2, e_def4, e_def0, e_def01, e_jNil, e_jVal, e_jVal1, e_j2, e_jIo, e_jIo1, e_itD0, e_itD1, e_itD2, e_itD3, e_itJ0, e_itJ1, e_itJ2, e_itP0, e_itP1, e_itP2, e_setMany0, e_setMany1, e_nodup0, e_nodup1, e_noPart, e_part, e_part1, e_slice, e_slice1, e_slice2, e_slice3, e_lstRg, e_lstRg1, e_lstRg2, e_iSeq, e_iSeq1, e_iSeq2, e_iEn, e_iEn1, e_iEn2, e_iR1, e_iR11, e_iR2, e_iR21, e_yes, e_lc, e_lc1, e_lc2, e_wipe0, e_wipe1, e_back0, e_back1, e_back2, e_noneOwn0, e_noneOwn1, e_noneOwn2, e_noneOwn3, e_noneOwn4, e_name, e_set, e_tNil, e_tCons, e_tCons1, e_tTup, e_seq, e_seq1, e_seq2, e_seq3, e_seq4, e_seq5, e_next, e_break, e_cont, e_expr, e_expr1, e_ret, e_ret1, e_sIf, e_sIf1, e_sIf2, e_asg, e_asg1, e_asg2, e_aug, e_aug0, e_aug1, e_aug2, e_aug3, e_par, e_par1, e_par2, e_app, e_app0, e_app1, e_app2, e_setIx, e_setIx0, e_setIx1, e_setIx2, e_setIx3, e_setIx4, e_match, e_match1, e_mCase, e_mAny, e_raise, e_for, e_body, e_body1, e_body2, e_body3, e_body4, e_body5, e_outs0, e_outs1, e_outs2, e_start0, e_start1, e_addI, e_addL, e_addI2, e_sub, e_cmp, e_eqI, e_neI, e_eqB, e_isN0, e_isN1, e_isN2, e_isN3, e_notN0, e_notN1, e_notN2, e_notN3, e_int, e_intB, e_max, e_min, e_neg, e_bits, e_lenL, e_lenT, e_lenS, e_ixL, e_ixT, e_ixS, e_at0, e_at1, e_at2, e_map, e_lstOf, e_lstOfS, e_seqOf, e_seqOfT, e_seqOfS, e_isiIB, e_isiII, e_isiTT, e_isiLL, c1], ⟨some (false, PyData.int (W1)), rfl, .inr ⟨_, rfl⟩⟩⟩)
  exact ⟨_, x9, .inr ⟨_, rfl⟩, f9, h1⟩
theorem sum_bits (d n : Nat) (st : Nat → Nat) : dSum [.list ((List.range d).map fun i => PyData.int (((st i : Nat) : Int) * ((bt n (d - 1 - i) : Nat) : Int)))] = some (.int (sN d n st d : Nat), false) := by
  have aux : ∀ (f : Nat → Int) (xs : List Nat), intsD (xs.map fun i => PyData.int (f i)) = some (xs.map f) := by
    intro f xs
    induction xs with
    | nil => rfl
    | cons x xs ih => rw [List.map_cons]; show (intsD _).map _ = _; rw [ih]; rfl
  have sm : ∀ m, ((List.range m).map fun i => ((st i : Nat) : Int) * ((bt n (d - 1 - i) : Nat) : Int)).sum = ((sN d n st m : Nat) : Int) := by
    intro m
    induction m with
    | zero => rfl
    | succ m ih =>
      rw [List.range_succ, List.map_append, List.sum_append, ih]
      have e1 : sN d n st (m + 1) = sN d n st m + bt n (d - 1 - m) * st m := rfl
      rw [e1]
      simp only [List.map_cons, List.map_nil, List.sum_cons, List.sum_nil, Int.add_zero]
      rw [Int.natCast_add, Int.natCast_mul, Int.mul_comm]
  unfold dSum
  dsimp only
  rw [aux fun i => ((st i : Nat) : Int) * ((bt n (d - 1 - i) : Nat) : Int), Option.map_some, sm]
theorem lc_atG {vs : List Nat} {tgt : D → Bool → Sl → Option Sl} {ge : Sl → EV} {ds : List D} (w : Nat → D) (δ : Sl) (h : ∀ i x, ds[i]? = some x → ∃ δ1 δ2 fr, tgt x false δ = some δ1 ∧ ge δ1 = .ok (w i, fr) δ2 ∧ wipeD δ2 vs = δ) :
    lcD vs tgt gYes ge ds [] δ = .ok ((List.range ds.length).map w) δ := by
  obtain ⟨acc, δ', h1, h2, h3⟩ := lcD_inv (vs := vs) (tgt := tgt) (gt := gYes) (ge := ge) (ds := ds) (fun i acc δ' => acc = (List.range i).map w ∧ δ' = δ) (δ := δ) ⟨rfl, rfl⟩ (by
    rintro i d acc δ' hd ⟨rfl, rfl⟩
    obtain ⟨δ1, δ2, fr, a, b, c⟩ := h i d hd
    exact ⟨δ1, a, .inl ⟨δ1, _, δ2, rfl, b, by rw [List.range_succ, List.map_append]; rfl, c⟩⟩)
  rw [h1, h2, h3]
theorem shrbit (n : Nat) (d i : Nat) (hi : i < d) : ∃ z : Int, dShr (.int (n : Int)) (.int ((d : Int) - 1 - (i : Int))) = some (.int z, false) ∧ dAnd (.int z) (.int 1) = some (.int ((bt n (d - 1 - i) : Nat) : Int), false) := by
  refine ⟨(n : Int) / 2 ^ (d - 1 - i), ?_, ?_⟩
  · rw [dShr_ok (by omega), show ((d : Int) - 1 - (i : Int)).toNat = d - 1 - i by omega]
  · have z : (n : Int) / 2 ^ (d - 1 - i) = ((n / 2 ^ (d - 1 - i) : Nat) : Int) := by simp
    have := Bits.bitAnd_mask 1 (x := ((n / 2 ^ (d - 1 - i) : Nat) : Int)) (Int.natCast_nonneg _)
    show some (PyData.int (Builtin.bitAnd _ 1), false) = _
    rw [z, show (1 : Int) = 2 ^ 1 - 1 by rfl, this]
    unfold bt
    simp
theorem turn3_ok {m : Nat} {r : D} (q : RL m r) (hm : m ≤ 900000) (k : Kd) (h d : Nat) (hd : d < h) (hh : h ≤ 100) (U : D) (x7 x8 x9 x10 x11 x12 : Option (Bool × D)) (f7 : FI x7) (f9 : FI x9) :
    ∃ r' z11 z12, lb_right_3 [some (true, r), some (false, PyData.str (kn k)), some (false, PyData.int (h)), some (false, PyData.int (d)), some (false, PyData.int ((num k h d : Nat))), some (false, PyData.list (wsD d (wz k h d))), some (true, U), x7, x8, x9, x10, x11, x12] = .ok .nx [some (true, r'), some (false, PyData.str (kn k)), some (false, PyData.int (h)), some (false, PyData.int (d)), some (false, PyData.int ((num k h d : Nat))), some (false, PyData.list (wsD d (wz k h d))), some (true, U), x7, x8, x9, x10, some (false, PyData.int (z11)), some (false, PyData.int (z12))] ∧ RL (m + 1) r' := by
  obtain ⟨v, r', s1, hv, q1⟩ := spin2 q (by omega) d (by omega)
  have sh := shl1 d (by omega)
  have p1 := place_of_ok k h d v hd hh hv
  have ln : (enumD 0 (wsD d (wz k h d))).length = d := by rw [enumD_len, wsD_len]
  have key := lc_atG (vs := [7, 9]) (tgt := gtTup (gtCons (gtName [5, 0] 7) (gtCons (gtName [5, 0] 9) gtNil))) (ge := ce_right_1) (ds := enumD 0 (wsD d (wz k h d))) (fun i => .int (((ws k h d i : Nat) : Int) * ((bt v (d - 1 - i) : Nat) : Int)))
    [some (true, r'), some (false, PyData.str (kn k)), some (false, PyData.int (h)), some (false, PyData.int (d)), some (false, PyData.int ((num k h d : Nat))), some (false, PyData.list (wsD d (wz k h d))), some (true, U), none, x8, none, x10, some (false, PyData.int ((v : Nat))), x12] (by
      intro i x hx
      rw [enumD_get] at hx
      obtain ⟨y, hy, rfl⟩ := Option.map_eq_some_iff.mp hx
      obtain ⟨hi, rfl⟩ := wsD_get hy
      obtain ⟨z, e1, e2⟩ := shrbit v d i hi
      have wb := ws_b k h d i hd hi
      have b01 : bt v (d - 1 - i) < 2 ^ 1 := by rcases bt_01 v (d - 1 - i) with b | b <;> rw [b] <;> decide
      have mu : dMul (.int (wz k h d i)) (.int ((bt v (d - 1 - i) : Nat) : Int)) = some (.int (((ws k h d i : Nat) : Int) * ((bt v (d - 1 - i) : Nat) : Int)), false) := dMul_ok h 1 (by unfold wz; rw [Int.natAbs_natCast]; exact wb) (by rw [Int.natAbs_natCast]; exact b01) (by omega)
      generalize ((ws k h d i : Nat) : Int) * ((bt v (d - 1 - i) : Nat) : Int) = RES at *
      generalize ((bt v (d - 1 - i) : Nat) : Int) = BT at *
      generalize wz k h d i = WI at *
      generalize wsD d (wz k h d) = WS at *
      generalize ((num k h d : Nat) : Int) = NN at *
      refine ⟨_, _, false, by simp [e_tUnl, e_ext, e_ext0, e_ext1, e_ext2, e_dix, e_dix1, e_dix2, e_look, e_rev, e_rev1, e_lr1, e_lr11, e_isE1, e_isE2, e_isE3, e_isE4, e_isE5, e_isE6, e_try, e_try1, e_try2, e_eqAS, e_neAS, e_eqAI, e_neAI, e_bind_ok, e_bind_exc, e_bind_stk, e_var, e_var1, e_var2, e_move, e_move1, e_move2, e_C, e_fin1, e_bin, e_bin1, e_bin2, e_chain, e_chain1, e_chain2, e_chain3, e_chain4, e_chain5, e_if, e_if1, e_if2, e_tv, e_tv1, e_notT, e_notT1, e_andT, e_andT1, e_andT2, e_orT, e_orT1, e_orT2, e_andV, e_andV1, e_andV2, e_orV, e_orV1, e_orV2, e_notV, e_notV1, e_aNil, e_aCons, e_aCons1, e_aCons2, e_star, e_star1, e_star2, e_star3, e_lst, e_lst1, e_tup, e_tup1, e_call, e_call1, e_slot, e_slot1, e_sb, e_sb0, e_sb1, e_sb2, e_sb3, e_bs, e_bs1, e_bs2, e_lenV, e_lenV1, e_un, e_un1, e_def, e_def1, e_def2, e_def3, e_fix0, e_fix1, e_fix2, e_def4, e_def0, e_def01, e_jNil, e_jVal, e_jVal1, e_j2, e_jIo, e_jIo1, e_itD0, e_itD1, e_itD2, e_itD3, e_itJ0, e_itJ1, e_itJ2, e_itP0, e_itP1, e_itP2, e_setMany0, e_setMany1, e_nodup0, e_nodup1, e_noPart, e_part, e_part1, e_slice, e_slice1, e_slice2, e_slice3, e_lstRg, e_lstRg1, e_lstRg2, e_iSeq, e_iSeq1, e_iSeq2, e_iEn, e_iEn1, e_iEn2, e_iR1, e_iR11, e_iR2, e_iR21, e_yes, e_lc, e_lc1, e_lc2, e_wipe0, e_wipe1, e_back0, e_back1, e_back2, e_noneOwn0, e_noneOwn1, e_noneOwn2, e_noneOwn3, e_noneOwn4, e_name, e_set, e_tNil, e_tCons, e_tCons1, e_tTup, e_seq, e_seq1, e_seq2, e_seq3, e_seq4, e_seq5, e_next, e_break, e_cont, e_expr, e_expr1, e_ret, e_ret1, e_sIf, e_sIf1, e_sIf2, e_asg, e_asg1, e_asg2, e_aug, e_aug0, e_aug1, e_aug2, e_aug3, e_par, e_par1, e_par2, e_app, e_app0, e_app1, e_app2, e_setIx, e_setIx0, e_setIx1, e_setIx2, e_setIx3, e_setIx4, e_match, e_match1, e_mCase, e_mAny, e_raise, e_for, e_body, e_body1, e_body2, e_body3, e_body4, e_body5, e_outs0, e_outs1, e_outs2, e_start0, e_start1, e_addI, e_addL, e_addI2, e_sub, e_cmp, e_eqI, e_neI, e_eqB, e_isN0, e_isN1, e_isN2, e_isN3, e_notN0, e_notN1, e_notN2, e_notN3, e_int, e_intB, e_max, e_min, e_neg, e_bits, e_lenL, e_lenT, e_lenS, e_ixL, e_ixT, e_ixS, e_at0, e_at1, e_at2, e_map, e_lstOf, e_lstOfS, e_seqOf, e_seqOfT, e_seqOfS, e_isiIB, e_isiII, e_isiTT, e_isiLL]; rfl, by simp [ce_right_1, e_tUnl, e_ext, e_ext0, e_ext1, e_ext2, e_dix, e_dix1, e_dix2, e_look, e_rev, e_rev1, e_lr1, e_lr11, e_isE1, e_isE2, e_isE3, e_isE4, e_isE5, e_isE6, e_try, e_try1, e_try2, e_eqAS, e_neAS, e_eqAI, e_neAI, e_bind_ok, e_bind_exc, e_bind_stk, e_var, e_var1, e_var2, e_move, e_move1, e_move2, e_C, e_fin1, e_bin, e_bin1, e_bin2, e_chain, e_chain1, e_chain2, e_chain3, e_chain4, e_chain5, e_if, e_if1, e_if2, e_tv, e_tv1, e_notT, e_notT1, e_andT, e_andT1, e_andT2, e_orT, e_orT1, e_orT2, e_andV, e_andV1, e_andV2, e_orV, e_orV1, e_orV2, e_notV, e_notV1, e_aNil, e_aCons, e_aCons1, e_aCons2, e_star, e_star1, e_star2, e_star3, e_lst, e_lst1, e_tup, e_tup1, e_call, e_call1, e_slot, e_slot1, e_sb, e_sb0, e_sb1, e_sb2, e_sb3, e_bs, e_bs1, e_bs2, e_lenV, e_lenV1, e_un, e_un1, e_def, e_def1, e_def2, e_def3, e_fix0, e_fix1, e_fix2, e_def4, e_def0, e_def01, e_jNil, e_jVal, e_jVal1, e_j2, e_jIo, e_jIo1, e_itD0, e_itD1, e_itD2, e_itD3, e_itJ0, e_itJ1, e_itJ2, e_itP0, e_itP1, e_itP2, e_setMany0, e_setMany1, e_nodup0, e_nodup1, e_noPart, e_part, e_part1, e_slice, e_slice1, e_slice2, e_slice3, e_lstRg, e_lstRg1, e_lstRg2, e_iSeq, e_iSeq1, e_iSeq2, e_iEn, e_iEn1, e_iEn2, e_iR1, e_iR11, e_iR2, e_iR21, e_yes, e_lc, e_lc1, e_lc2, e_wipe0, e_wipe1, e_back0, e_back1, e_back2, e_noneOwn0, e_noneOwn1, e_noneOwn2, e_noneOwn3, e_noneOwn4, e_name, e_set, e_tNil, e_tCons, e_tCons1, e_tTup, e_seq, e_seq1, e_seq2, e_seq3, e_seq4, e_seq5, e_next, e_break, e_cont, e_expr, e_expr1, e_ret, e_ret1, e_sIf, e_sIf1, e_sIf2, e_asg, e_asg1, e_asg2, e_aug, e_aug0, e_aug1, e_aug2, e_aug3, e_par, e_par1, e_par2, e_app, e_app0, e_app1, e_app2, e_setIx, e_setIx0, e_setIx1, e_setIx2, e_setIx3, e_setIx4, e_match, e_match1, e_mCase, e_mAny, e_raise, e_for, e_body, e_body1, e_body2, e_body3, e_body4, e_body5, e_outs0, e_outs1, e_outs2, e_start0, e_start1, e_addI, e_addL, e_addI2, e_sub, e_cmp, e_eqI, e_neI, e_eqB, e_isN0, e_isN1, e_isN2, e_isN3, e_notN0, e_notN1, e_notN2, e_notN3, e_int, e_intB, e_max, e_min, e_neg, e_bits, e_lenL, e_lenT, e_lenS, e_ixL, e_ixT, e_ixS, e_at0, e_at1, e_at2, e_map, e_lstOf, e_lstOfS, e_seqOf, e_seqOfT, e_seqOfS, e_isiIB, e_isiII, e_isiTT, e_isiLL, e1, e2, mu]; rfl, by simp [e_tUnl, e_ext, e_ext0, e_ext1, e_ext2, e_dix, e_dix1, e_dix2, e_look, e_rev, e_rev1, e_lr1, e_lr11, e_isE1, e_isE2, e_isE3, e_isE4, e_isE5, e_isE6, e_try, e_try1, e_try2, e_eqAS, e_neAS, e_eqAI, e_neAI, e_bind_ok, e_bind_exc, e_bind_stk, e_var, e_var1, e_var2, e_move, e_move1, e_move2, e_C, e_fin1, e_bin, e_bin1, e_bin2, e_chain, e_chain1, e_chain2, e_chain3, e_chain4, e_chain5, e_if, e_if1, e_if2, e_tv, e_tv1, e_notT, e_notT1, e_andT, e_andT1, e_andT2, e_orT, e_orT1, e_orT2, e_andV, e_andV1, e_andV2, e_orV, e_orV1, e_orV2, e_notV, e_notV1, e_aNil, e_aCons, e_aCons1, e_aCons2, e_star, e_star1, e_star2, e_star3, e_lst, e_lst1, e_tup, e_tup1, e_call, e_call1, e_slot, e_slot1, e_sb, e_sb0, e_sb1, e_sb2, e_sb3, e_bs, e_bs1, e_bs2, e_lenV, e_lenV1, e_un, e_un1, e_def, e_def1, e_def2, e_def3, e_fix0, e_fix1, e_fix2, e_def4, e_def0, e_def01, e_jNil, e_jVal, e_jVal1, e_j2, e_jIo, e_jIo1, e_itD0, e_itD1, e_itD2, e_itD3, e_itJ0, e_itJ1, e_itJ2, e_itP0, e_itP1, e_itP2, e_setMany0, e_setMany1, e_nodup0, e_nodup1, e_noPart, e_part, e_part1, e_slice, e_slice1, e_slice2, e_slice3, e_lstRg, e_lstRg1, e_lstRg2, e_iSeq, e_iSeq1, e_iSeq2, e_iEn, e_iEn1, e_iEn2, e_iR1, e_iR11, e_iR2, e_iR21, e_yes, e_lc, e_lc1, e_lc2, e_wipe0, e_wipe1, e_back0, e_back1, e_back2, e_noneOwn0, e_noneOwn1, e_noneOwn2, e_noneOwn3, e_noneOwn4, e_name, e_set, e_tNil, e_tCons, e_tCons1, e_tTup, e_seq, e_seq1, e_seq2, e_seq3, e_seq4, e_seq5, e_next, e_break, e_cont, e_expr, e_expr1, e_ret, e_ret1, e_sIf, e_sIf1, e_sIf2, e_asg, e_asg1, e_asg2, e_aug, e_aug0, e_aug1, e_aug2, e_aug3, e_par, e_par1, e_par2, e_app, e_app0, e_app1, e_app2, e_setIx, e_setIx0, e_setIx1, e_setIx2, e_setIx3, e_setIx4, e_match, e_match1, e_mCase, e_mAny, e_raise, e_for, e_body, e_body1, e_body2, e_body3, e_body4, e_body5, e_outs0, e_outs1, e_outs2, e_start0, e_start1, e_addI, e_addL, e_addI2, e_sub, e_cmp, e_eqI, e_neI, e_eqB, e_isN0, e_isN1, e_isN2, e_isN3, e_notN0, e_notN1, e_notN2, e_notN3, e_int, e_intB, e_max, e_min, e_neg, e_bits, e_lenL, e_lenT, e_lenS, e_ixL, e_ixT, e_ixS, e_at0, e_at1, e_at2, e_map, e_lstOf, e_lstOfS, e_seqOf, e_seqOfT, e_seqOfS, e_isiIB, e_isiII, e_isiTT, e_isiLL]⟩)
  rw [ln] at key
  have sm := sum_bits d v (ws k h d)
  have hsp : ((sp k h d v : Nat) : Int) = ((num k h d : Nat) : Int) + ((sN d v (ws k h d) d : Nat) : Int) := by unfold sp; omega
  rw [hsp] at p1
  have ll : (enumD 0 (wsD d (wz k h d))).length ≤ LINE := lE _ (by rw [ln]; omega)
  refine ⟨r', (v : Nat), ((num k h d : Nat) : Int) + ((sN d v (ws k h d) d : Nat) : Int), ?_, q1⟩
  unfold nd at p1
  generalize (List.range d).map (fun i => PyData.int (((ws k h d i : Nat) : Int) * ((bt v (d - 1 - i) : Nat) : Int))) = LS at *
  generalize hE : enumD 0 (wsD d (wz k h d)) = E at *
  generalize wsD d (wz k h d) = WS at *
  generalize ((num k h d : Nat) : Int) = NN at *
  generalize ((sN d v (ws k h d) d : Nat) : Int) = SS at *
  rcases f7 with rfl | ⟨z7, rfl⟩ <;> rcases f9 with rfl | ⟨z9, rfl⟩ <;> simp [lb_right_3, e_tUnl, e_ext, e_ext0, e_ext1, e_ext2, e_dix, e_dix1, e_dix2, e_look, e_rev, e_rev1, e_lr1, e_lr11, e_isE1, e_isE2, e_isE3, e_isE4, e_isE5, e_isE6, e_try, e_try1, e_try2, e_eqAS, e_neAS, e_eqAI, e_neAI, e_bind_ok, e_bind_exc, e_bind_stk, e_var, e_var1, e_var2, e_move, e_move1, e_move2, e_C, e_fin1, e_bin, e_bin1, e_bin2, e_chain, e_chain1, e_chain2, e_chain3, e_chain4, e_chain5, e_if, e_if1, e_if2, e_tv, e_tv1, e_notT, e_notT1, e_andT, e_andT1, e_andT2, e_orT, e_orT1, e_orT2, e_andV, e_andV1, e_andV2, e_orV, e_orV1, e_orV2, e_notV, e_notV1, e_aNil, e_aCons, e_aCons1, e_aCons2, e_star, e_star1, e_star2, e_star3, e_lst, e_lst1, e_tup, e_tup1, e_call, e_call1, e_slot, e_slot1, e_sb, e_sb0, e_sb1, e_sb2, e_sb3, e_bs, e_bs1, e_bs2, e_lenV, e_lenV1, e_un, e_un1, e_def, e_def1, e_def2, e_def3, e_fix0, e_fix1, e_fix2, e_def4, e_def0, e_def01, e_jNil, e_jVal, e_jVal1, e_j2, e_jIo, e_jIo1, e_itD0, e_itD1, e_itD2, e_itD3, e_itJ0, e_itJ1, e_itJ2, e_itP0, e_itP1, e_itP2, e_setMany0, e_setMany1, e_nodup0, e_nodup1, e_noPart, e_part, e_part1, e_slice, e_slice1, e_slice2, e_slice3, e_lstRg, e_lstRg1, e_lstRg2, e_iSeq, e_iSeq1, e_iSeq2, e_iEn, e_iEn1, e_iEn2, e_iR1, e_iR11, e_iR2, e_iR21, e_yes, e_lc, e_lc1, e_lc2, e_wipe0, e_wipe1, e_back0, e_back1, e_back2, e_noneOwn0, e_noneOwn1, e_noneOwn2, e_noneOwn3, e_noneOwn4, e_name, e_set, e_tNil, e_tCons, e_tCons1, e_tTup, e_seq, e_seq1, e_seq2, e_seq3, e_seq4, e_seq5, e_next, e_break, e_cont, e_expr, e_expr1, e_ret, e_ret1, e_sIf, e_sIf1, e_sIf2, e_asg, e_asg1, e_asg2, e_aug, e_aug0, e_aug1, e_aug2, e_aug3, e_par, e_par1, e_par2, e_app, e_app0, e_app1, e_app2, e_setIx, e_setIx0, e_setIx1, e_setIx2, e_setIx3, e_setIx4, e_match, e_match1, e_mCase, e_mAny, e_raise, e_for, e_body, e_body1, e_body2, e_body3, e_body4, e_body5, e_outs0, e_outs1, e_outs2, e_start0, e_start1, e_addI, e_addL, e_addI2, e_sub, e_cmp, e_eqI, e_neI, e_eqB, e_isN0, e_isN1, e_isN2, e_isN3, e_notN0, e_notN1, e_notN2, e_notN3, e_int, e_intB, e_max, e_min, e_neg, e_bits, e_lenL, e_lenT, e_lenS, e_ixL, e_ixT, e_ixS, e_at0, e_at1, e_at2, e_map, e_lstOf, e_lstOfS, e_seqOf, e_seqOfT, e_seqOfS, e_isiIB, e_isiII, e_isiTT, e_isiLL, s1, sh, hE, key, sm, p1, ll, l2]
end SM

namespace SM
open PySem PySem.Spec DL
open PyProof.Rows hiding St
def allK : List Kd := [.lev, .ino, .pre, .post, .les, .gre, .pow]
def kindsL : List D := allK.map fun k => .str (kn k)
theorem kinds_ok : m__law_kinds [] = .ok (.list kindsL, true) [] := by kernel_rfl
theorem kinds_get {i : Nat} {x : D} (h : kindsL[i]? = some x) : ∃ k : Kd, x = .str (kn k) := by
  unfold kindsL at h
  rw [List.getElem?_map] at h
  obtain ⟨k, _, rfl⟩ := Option.map_eq_some_iff.mp h
  exact ⟨k, rfl⟩
theorem kinds_at (t : Nat) (ht : t < 7) : ∃ o : Kd, dIx (.list kindsL) (.int t) = some (.str (kn o), false) := by
  have c : t = 0 ∨ t = 1 ∨ t = 2 ∨ t = 3 ∨ t = 4 ∨ t = 5 ∨ t = 6 := by omega
  rcases c with rfl | rfl | rfl | rfl | rfl | rfl | rfl
  · exact ⟨.lev, rfl⟩
  · exact ⟨.ino, rfl⟩
  · exact ⟨.pre, rfl⟩
  · exact ⟨.post, rfl⟩
  · exact ⟨.les, rfl⟩
  · exact ⟨.gre, rfl⟩
  · exact ⟨.pow, rfl⟩
end SM

namespace SM
open PySem PySem.Spec DL
open PyProof.Rows hiding St
theorem cells_ok (ns : List Int) (δ : Sl) (c : Int) (hc : 1 ≤ c) (hc2 : c ≤ 63) : ∃ K : Nat, 1 ≤ K ∧ (K : Int) ≤ c ∧ gCall dMax2 (gaCons (gC (.int 1)) (gaCons (gCall dMin2 (gaCons (gC (.int c)) (gaCons (gLenV 0) gaNil))) gaNil)) (some (false, scrD ns) :: δ) = .ok (.int K, false) (some (false, scrD ns) :: δ) := by
  have e2 : dLen [scrD ns] = some (.int ns.length, false) := by
    show some (PyData.int ((ns.map PyData.int).length : Nat), false) = _
    rw [List.length_map]
  obtain ⟨K, hK, hK1, hK2⟩ : ∃ K : Nat, 1 ≤ K ∧ (K : Int) ≤ c ∧ (if (if (ns.length : Int) < c then (ns.length : Int) else c) > 1 then (if (ns.length : Int) < c then (ns.length : Int) else c) else 1) = (K : Int) := by
    refine ⟨(if (if (ns.length : Int) < c then (ns.length : Int) else c) > 1 then (if (ns.length : Int) < c then (ns.length : Int) else c) else 1).toNat, ?_, ?_, ?_⟩ <;> (split <;> split <;> omega)
  refine ⟨K, hK, hK1, ?_⟩
  rw [← hK2]
  simp [e_tUnl, e_ext, e_ext0, e_ext1, e_ext2, e_dix, e_dix1, e_dix2, e_look, e_rev, e_rev1, e_lr1, e_lr11, e_isE1, e_isE2, e_isE3, e_isE4, e_isE5, e_isE6, e_try, e_try1, e_try2, e_eqAS, e_neAS, e_eqAI, e_neAI, e_bind_ok, e_bind_exc, e_bind_stk, e_var, e_var1, e_var2, e_move, e_move1, e_move2, e_C, e_fin1, e_bin, e_bin1, e_bin2, e_chain, e_chain1, e_chain2, e_chain3, e_chain4, e_chain5, e_if, e_if1, e_if2, e_tv, e_tv1, e_notT, e_notT1, e_andT, e_andT1, e_andT2, e_orT, e_orT1, e_orT2, e_andV, e_andV1, e_andV2, e_orV, e_orV1, e_orV2, e_notV, e_notV1, e_aNil, e_aCons, e_aCons1, e_aCons2, e_star, e_star1, e_star2, e_star3, e_lst, e_lst1, e_tup, e_tup1, e_call, e_call1, e_slot, e_slot1, e_sb, e_sb0, e_sb1, e_sb2, e_sb3, e_bs, e_bs1, e_bs2, e_lenV, e_lenV1, e_un, e_un1, e_def, e_def1, e_def2, e_def3, e_fix0, e_fix1, e_fix2, e_def4, e_def0, e_def01, e_jNil, e_jVal, e_jVal1, e_j2, e_jIo, e_jIo1, e_itD0, e_itD1, e_itD2, e_itD3, e_itJ0, e_itJ1, e_itJ2, e_itP0, e_itP1, e_itP2, e_setMany0, e_setMany1, e_nodup0, e_nodup1, e_noPart, e_part, e_part1, e_slice, e_slice1, e_slice2, e_slice3, e_lstRg, e_lstRg1, e_lstRg2, e_iSeq, e_iSeq1, e_iSeq2, e_iEn, e_iEn1, e_iEn2, e_iR1, e_iR11, e_iR2, e_iR21, e_yes, e_lc, e_lc1, e_lc2, e_wipe0, e_wipe1, e_back0, e_back1, e_back2, e_noneOwn0, e_noneOwn1, e_noneOwn2, e_noneOwn3, e_noneOwn4, e_name, e_set, e_tNil, e_tCons, e_tCons1, e_tTup, e_seq, e_seq1, e_seq2, e_seq3, e_seq4, e_seq5, e_next, e_break, e_cont, e_expr, e_expr1, e_ret, e_ret1, e_sIf, e_sIf1, e_sIf2, e_asg, e_asg1, e_asg2, e_aug, e_aug0, e_aug1, e_aug2, e_aug3, e_par, e_par1, e_par2, e_app, e_app0, e_app1, e_app2, e_setIx, e_setIx0, e_setIx1, e_setIx2, e_setIx3, e_setIx4, e_match, e_match1, e_mCase, e_mAny, e_raise, e_for, e_body, e_body1, e_body2, e_body3, e_body4, e_body5, e_outs0, e_outs1, e_outs2, e_start0, e_start1, e_addI, e_addL, e_addI2, e_sub, e_cmp, e_eqI, e_neI, e_eqB, e_isN0, e_isN1, e_isN2, e_isN3, e_notN0, e_notN1, e_notN2, e_notN3, e_int, e_intB, e_max, e_min, e_neg, e_bits, e_lenL, e_lenT, e_lenS, e_ixL, e_ixT, e_ixS, e_at0, e_at1, e_at2, e_map, e_lstOf, e_lstOfS, e_seqOf, e_seqOfT, e_seqOfS, e_isiIB, e_isiII, e_isiTT, e_isiLL, e2]
end SM

namespace SM
open PySem PySem.Spec DL
open PyProof.Rows hiding St
theorem neS (s : Str) : dNeA (.str s) (.str s) = some (.bool false, false) := by
  show some (PyData.bool (!decide (s = s)), false) = _
  simp
theorem pair_ok (k : Kd) (h d : Nat) (hd : d < h) (hh : h ≤ 100) : dEqA (pairW k h d) (pairW k h d) = some (.bool true, false) := dEq_self ((pair_sm k h d hd hh).shaped (by omega))
/-- repr of both pairs -/
theorem th1_ok (k : Kd) (h d : Nat) (hd : d < h) (hh : h ≤ 100) (a b c : Int) (x7 : Option (Bool × D)) (f7 : FI x7) :
    sThaw [5, 6] th_right_1 [some (true, PyData.list [.int a, .int b, .int c]), some (false, PyData.str (kn k)), some (false, PyData.int (h)), some (false, PyData.int (d)), some (false, PyData.int ((num k h d : Nat))), some (true, PyData.list (wsD d (wz k h d))), some (true, PyData.list (wsD d (wz k h d))), x7, none, none, none, none, none]
    = .ok .nx [some (true, PyData.list [.int a, .int b, .int c]), some (false, PyData.str (kn k)), some (false, PyData.int (h)), some (false, PyData.int (d)), some (false, PyData.int ((num k h d : Nat))), some (true, PyData.list (wsD d (wz k h d))), some (true, PyData.list (wsD d (wz k h d))), x7, none, none, none, none, none] := by
  have rp := (pair_sm k h d hd hh).repr (by show _ ≤ 16777216; omega) (by omega)
  have ne := neS (PyData.shown (pairW k h d))
  have p0 := place_of_ok k h d 0 hd hh (p2pos _)
  have hs : sp k h d 0 = num k h d := by unfold sp; rw [sN_zero]; rfl
  rw [hs] at p0
  have p0 : m_place_of [.str (kn k), .int h, .tuple [.int d, .int 0]] = .ok (.int (num k h d : Nat), false) [] := p0
  have fl := wsD_flat d (wz k h d)
  refine thaw_nx (is := [5, 6]) rfl (δ' := [some (true, PyData.list [.int a, .int b, .int c]), some (false, PyData.str (kn k)), some (false, PyData.int (h)), some (false, PyData.int (d)), some (false, PyData.int ((num k h d : Nat))), some (false, PyData.list (wsD d (wz k h d))), some (false, PyData.list (wsD d (wz k h d))), x7, none, none, none, none, none]) ?_ ?_ (oth_56 f7 (.inl rfl) (.inl rfl) (.inl rfl) (.inl rfl) (.inl rfl))
  · unfold pairW at rp ne
    generalize PyData.shown (.tuple [.int (num k h d : Nat), .list (wsD d (wz k h d))]) = SN at *
    generalize wsD d (wz k h d) = WS at *
    generalize ((num k h d : Nat) : Int) = NN at *
    simp [th_right_1, e_tUnl, e_ext, e_ext0, e_ext1, e_ext2, e_dix, e_dix1, e_dix2, e_look, e_rev, e_rev1, e_lr1, e_lr11, e_isE1, e_isE2, e_isE3, e_isE4, e_isE5, e_isE6, e_try, e_try1, e_try2, e_eqAS, e_neAS, e_eqAI, e_neAI, e_bind_ok, e_bind_exc, e_bind_stk, e_var, e_var1, e_var2, e_move, e_move1, e_move2, e_C, e_fin1, e_bin, e_bin1, e_bin2, e_chain, e_chain1, e_chain2, e_chain3, e_chain4, e_chain5, e_if, e_if1, e_if2, e_tv, e_tv1, e_notT, e_notT1, e_andT, e_andT1, e_andT2, e_orT, e_orT1, e_orT2, e_andV, e_andV1, e_andV2, e_orV, e_orV1, e_orV2, e_notV, e_notV1, e_aNil, e_aCons, e_aCons1, e_aCons2, e_star, e_star1, e_star2, e_star3, e_lst, e_lst1, e_tup, e_tup1, e_call, e_call1, e_slot, e_slot1, e_sb, e_sb0, e_sb1, e_sb2, e_sb3, e_bs, e_bs1, e_bs2, e_lenV, e_lenV1, e_un, e_un1, e_def, e_def1, e_def2, e_def3, e_fix0, e_fix1, e_fix2, e_def4, e_def0, e_def01, e_jNil, e_jVal, e_jVal1, e_j2, e_jIo, e_jIo1, e_itD0, e_itD1, e_itD2, e_itD3, e_itJ0, e_itJ1, e_itJ2, e_itP0, e_itP1, e_itP2, e_setMany0, e_setMany1, e_nodup0, e_nodup1, e_noPart, e_part, e_part1, e_slice, e_slice1, e_slice2, e_slice3, e_lstRg, e_lstRg1, e_lstRg2, e_iSeq, e_iSeq1, e_iSeq2, e_iEn, e_iEn1, e_iEn2, e_iR1, e_iR11, e_iR2, e_iR21, e_yes, e_lc, e_lc1, e_lc2, e_wipe0, e_wipe1, e_back0, e_back1, e_back2, e_noneOwn0, e_noneOwn1, e_noneOwn2, e_noneOwn3, e_noneOwn4, e_name, e_set, e_tNil, e_tCons, e_tCons1, e_tTup, e_seq, e_seq1, e_seq2, e_seq3, e_seq4, e_seq5, e_next, e_break, e_cont, e_expr, e_expr1, e_ret, e_ret1, e_sIf, e_sIf1, e_sIf2, e_asg, e_asg1, e_asg2, e_aug, e_aug0, e_aug1, e_aug2, e_aug3, e_par, e_par1, e_par2, e_app, e_app0, e_app1, e_app2, e_setIx, e_setIx0, e_setIx1, e_setIx2, e_setIx3, e_setIx4, e_match, e_match1, e_mCase, e_mAny, e_raise, e_for, e_body, e_body1, e_body2, e_body3, e_body4, e_body5, e_outs0, e_outs1, e_outs2, e_start0, e_start1, e_addI, e_addL, e_addI2, e_sub, e_cmp, e_eqI, e_neI, e_eqB, e_isN0, e_isN1, e_isN2, e_isN3, e_notN0, e_notN1, e_notN2, e_notN3, e_int, e_intB, e_max, e_min, e_neg, e_bits, e_lenL, e_lenT, e_lenS, e_ixL, e_ixT, e_ixS, e_at0, e_at1, e_at2, e_map, e_lstOf, e_lstOfS, e_seqOf, e_seqOfT, e_seqOfS, e_isiIB, e_isiII, e_isiTT, e_isiLL, rp, ne, p0, l2]
  · show (List.all (wsD d (wz k h d)) flatD && (List.all (wsD d (wz k h d)) flatD && true)) = true
    rw [fl]
    rfl
theorem th2_ok (k : Kd) (h d : Nat) (hd : d < h) (hh : h ≤ 100) (a b c : Int) (x7 : Option (Bool × D)) (f7 : FI x7) : ∃ x8 x9, FI x8 ∧ FI x9 ∧
    sThaw [6] th_right_2 [some (true, PyData.list [.int a, .int b, .int c]), some (false, PyData.str (kn k)), some (false, PyData.int (h)), some (false, PyData.int (d)), some (false, PyData.int ((num k h d : Nat))), some (true, PyData.list (wsD d (wz k h d))), some (true, PyData.list (wsD d (wz k h d))), x7, some (false, PyData.int (0)), none, none, none, none]
    = .ok .nx [some (true, PyData.list [.int a, .int b, .int c]), some (false, PyData.str (kn k)), some (false, PyData.int (h)), some (false, PyData.int (d)), some (false, PyData.int ((num k h d : Nat))), some (true, PyData.list (wsD d (wz k h d))), some (true, PyData.list (wsD d (wz k h d))), x7, x8, x9, none, none, none] := by
  obtain ⟨x8, x9, f8, f9, e⟩ := rest_ok k h d hd (.list [.int a, .int b, .int c]) (.int (num k h d : Nat)) (.list (wsD d (wz k h d))) (wsD d (wz k h d)) x7
  have fl := wsD_flat d (wz k h d)
  refine ⟨x8, x9, f8, f9, thaw_nx (is := [6]) rfl (δ' := [some (true, PyData.list [.int a, .int b, .int c]), some (false, PyData.str (kn k)), some (false, PyData.int (h)), some (false, PyData.int (d)), some (false, PyData.int ((num k h d : Nat))), some (true, PyData.list (wsD d (wz k h d))), some (false, PyData.list (wsD d (wz k h d))), x7, x8, x9, none, none, none]) ?_ ?_ (oth_6 fl f7 f8 f9 (.inl rfl) (.inl rfl) (.inl rfl))⟩
  · generalize hW : wsD d (wz k h d) = WS at *
    generalize ((num k h d : Nat) : Int) = NN at *
    simp [th_right_2, e_tUnl, e_ext, e_ext0, e_ext1, e_ext2, e_dix, e_dix1, e_dix2, e_look, e_rev, e_rev1, e_lr1, e_lr11, e_isE1, e_isE2, e_isE3, e_isE4, e_isE5, e_isE6, e_try, e_try1, e_try2, e_eqAS, e_neAS, e_eqAI, e_neAI, e_bind_ok, e_bind_exc, e_bind_stk, e_var, e_var1, e_var2, e_move, e_move1, e_move2, e_C, e_fin1, e_bin, e_bin1, e_bin2, e_chain, e_chain1, e_chain2, e_chain3, e_chain4, e_chain5, e_if, e_if1, e_if2, e_tv, e_tv1, e_notT, e_notT1, e_andT, e_andT1, e_andT2, e_orT, e_orT1, e_orT2, e_andV, e_andV1, e_andV2, e_orV, e_orV1, e_orV2, e_notV, e_notV1, e_aNil, e_aCons, e_aCons1, e_aCons2, e_star, e_star1, e_star2, e_star3, e_lst, e_lst1, e_tup, e_tup1, e_call, e_call1, e_slot, e_slot1, e_sb, e_sb0, e_sb1, e_sb2, e_sb3, e_bs, e_bs1, e_bs2, e_lenV, e_lenV1, e_un, e_un1, e_def, e_def1, e_def2, e_def3, e_fix0, e_fix1, e_fix2, e_def4, e_def0, e_def01, e_jNil, e_jVal, e_jVal1, e_j2, e_jIo, e_jIo1, e_itD0, e_itD1, e_itD2, e_itD3, e_itJ0, e_itJ1, e_itJ2, e_itP0, e_itP1, e_itP2, e_setMany0, e_setMany1, e_nodup0, e_nodup1, e_noPart, e_part, e_part1, e_slice, e_slice1, e_slice2, e_slice3, e_lstRg, e_lstRg1, e_lstRg2, e_iSeq, e_iSeq1, e_iSeq2, e_iEn, e_iEn1, e_iEn2, e_iR1, e_iR11, e_iR2, e_iR21, e_yes, e_lc, e_lc1, e_lc2, e_wipe0, e_wipe1, e_back0, e_back1, e_back2, e_noneOwn0, e_noneOwn1, e_noneOwn2, e_noneOwn3, e_noneOwn4, e_name, e_set, e_tNil, e_tCons, e_tCons1, e_tTup, e_seq, e_seq1, e_seq2, e_seq3, e_seq4, e_seq5, e_next, e_break, e_cont, e_expr, e_expr1, e_ret, e_ret1, e_sIf, e_sIf1, e_sIf2, e_asg, e_asg1, e_asg2, e_aug, e_aug0, e_aug1, e_aug2, e_aug3, e_par, e_par1, e_par2, e_app, e_app0, e_app1, e_app2, e_setIx, e_setIx0, e_setIx1, e_setIx2, e_setIx3, e_setIx4, e_match, e_match1, e_mCase, e_mAny, e_raise, e_for, e_body, e_body1, e_body2, e_body3, e_body4, e_body5, e_outs0, e_outs1, e_outs2, e_start0, e_start1, e_addI, e_addL, e_addI2, e_sub, e_cmp, e_eqI, e_neI, e_eqB, e_isN0, e_isN1, e_isN2, e_isN3, e_notN0, e_notN1, e_notN2, e_notN3, e_int, e_intB, e_max, e_min, e_neg, e_bits, e_lenL, e_lenT, e_lenS, e_ixL, e_ixT, e_ixS, e_at0, e_at1, e_at2, e_map, e_lstOf, e_lstOfS, e_seqOf, e_seqOfT, e_seqOfS, e_isiIB, e_isiII, e_isiTT, e_isiLL, e]
  · show (List.all (wsD d (wz k h d)) flatD && true) = true
    rw [fl]
    rfl
theorem th3_ok {m : Nat} {a b c : Int} (q : RL m (.list [.int a, .int b, .int c])) (hm : m ≤ 800000) (k : Kd) (h d : Nat) (hd : d < h) (hh : h ≤ 100) (x7 x8 x9 : Option (Bool × D)) (f7 : FI x7) (f8 : FI x8) (f9 : FI x9) : ∃ r' x10 x11 x12, RL (m + 3) r' ∧
    sThaw [5] th_right_3 [some (true, PyData.list [.int a, .int b, .int c]), some (false, PyData.str (kn k)), some (false, PyData.int (h)), some (false, PyData.int (d)), some (false, PyData.int ((num k h d : Nat))), some (true, PyData.list (wsD d (wz k h d))), some (true, PyData.list (wsD d (wz k h d))), x7, x8, x9, none, none, none]
    = .ok .nx [some (true, r'), some (false, PyData.str (kn k)), some (false, PyData.int (h)), some (false, PyData.int (d)), some (false, PyData.int ((num k h d : Nat))), some (true, PyData.list (wsD d (wz k h d))), some (true, PyData.list (wsD d (wz k h d))), x7, x8, x9, x10, x11, x12] := by
  obtain ⟨δ', g1, r', x10, x11, x12, rfl, q', f10, f11, f12⟩ := forD_inv (tgt := gtName [5, 0] 10) (body := lb_right_3) (ds := rgN 0 3) (δ := [some (true, PyData.list [.int a, .int b, .int c]), some (false, PyData.str (kn k)), some (false, PyData.int (h)), some (false, PyData.int (d)), some (false, PyData.int ((num k h d : Nat))), some (false, PyData.list (wsD d (wz k h d))), some (true, PyData.list (wsD d (wz k h d))), x7, x8, x9, none, none, none])
    (fun i δ => ∃ r' x10 x11 x12, δ = [some (true, r'), some (false, PyData.str (kn k)), some (false, PyData.int (h)), some (false, PyData.int (d)), some (false, PyData.int ((num k h d : Nat))), some (false, PyData.list (wsD d (wz k h d))), some (true, PyData.list (wsD d (wz k h d))), x7, x8, x9, x10, x11, x12] ∧ RL (m + i) r' ∧ FI x10 ∧ FI x11 ∧ FI x12) ⟨_, none, none, none, rfl, q, .inl rfl, .inl rfl, .inl rfl⟩ (by
      rintro i y δ hy ⟨r', x10, x11, x12, rfl, q', f10, f11, f12⟩
      obtain ⟨hi, e⟩ := List.getElem?_eq_some_iff.mp hy
      have hi : i < 3 := hi
      have e : y = .int (i : Int) := by rw [← e]; simp [rgN]
      subst e
      obtain ⟨r2, z11, z12, t1, t2⟩ := turn3_ok q' (by omega) k h d hd hh (.list (wsD d (wz k h d))) x7 x8 x9 (some (false, PyData.int ((i : Int)))) x11 x12 f7 f9
      exact ⟨_, by simp [e_tUnl, e_ext, e_ext0, e_ext1, e_ext2, e_dix, e_dix1, e_dix2, e_look, e_rev, e_rev1, e_lr1, e_lr11, e_isE1, e_isE2, e_isE3, e_isE4, e_isE5, e_isE6, e_try, e_try1, e_try2, e_eqAS, e_neAS, e_eqAI, e_neAI, e_bind_ok, e_bind_exc, e_bind_stk, e_var, e_var1, e_var2, e_move, e_move1, e_move2, e_C, e_fin1, e_bin, e_bin1, e_bin2, e_chain, e_chain1, e_chain2, e_chain3, e_chain4, e_chain5, e_if, e_if1, e_if2, e_tv, e_tv1, e_notT, e_notT1, e_andT, e_andT1, e_andT2, e_orT, e_orT1, e_orT2, e_andV, e_andV1, e_andV2, e_orV, e_orV1, e_orV2, e_notV, e_notV1, e_aNil, e_aCons, e_aCons1, e_aCons2, e_star, e_star1, e_star2, e_star3, e_lst, e_lst1, e_tup, e_tup1, e_call, e_call1, e_slot, e_slot1, e_sb, e_sb0, e_sb1, e_sb2, e_sb3, e_bs, e_bs1, e_bs2, e_lenV, e_lenV1, e_un, e_un1, e_def, e_def1, e_def2, e_def3, e_fix0, e_fix1, e_fix2, e_def4, e_def0, e_def01, e_jNil, e_jVal, e_jVal1, e_j2, e_jIo, e_jIo1, e_itD0, e_itD1, e_itD2, e_itD3, e_itJ0, e_itJ1, e_itJ2, e_itP0, e_itP1, e_itP2, e_setMany0, e_setMany1, e_nodup0, e_nodup1, e_noPart, e_part, e_part1, e_slice, e_slice1, e_slice2, e_slice3, e_lstRg, e_lstRg1, e_lstRg2, e_iSeq, e_iSeq1, e_iSeq2, e_iEn, e_iEn1, e_iEn2, e_iR1, e_iR11, e_iR2, e_iR21, e_yes, e_lc, e_lc1, e_lc2, e_wipe0, e_wipe1, e_back0, e_back1, e_back2, e_noneOwn0, e_noneOwn1, e_noneOwn2, e_noneOwn3, e_noneOwn4, e_name, e_set, e_tNil, e_tCons, e_tCons1, e_tTup, e_seq, e_seq1, e_seq2, e_seq3, e_seq4, e_seq5, e_next, e_break, e_cont, e_expr, e_expr1, e_ret, e_ret1, e_sIf, e_sIf1, e_sIf2, e_asg, e_asg1, e_asg2, e_aug, e_aug0, e_aug1, e_aug2, e_aug3, e_par, e_par1, e_par2, e_app, e_app0, e_app1, e_app2, e_setIx, e_setIx0, e_setIx1, e_setIx2, e_setIx3, e_setIx4, e_match, e_match1, e_mCase, e_mAny, e_raise, e_for, e_body, e_body1, e_body2, e_body3, e_body4, e_body5, e_outs0, e_outs1, e_outs2, e_start0, e_start1, e_addI, e_addL, e_addI2, e_sub, e_cmp, e_eqI, e_neI, e_eqB, e_isN0, e_isN1, e_isN2, e_isN3, e_notN0, e_notN1, e_notN2, e_notN3, e_int, e_intB, e_max, e_min, e_neg, e_bits, e_lenL, e_lenT, e_lenS, e_ixL, e_ixT, e_ixS, e_at0, e_at1, e_at2, e_map, e_lstOf, e_lstOfS, e_seqOf, e_seqOfT, e_seqOfS, e_isiIB, e_isiII, e_isiTT, e_isiLL], _, t1, ⟨r2, _, _, _, rfl, t2, .inr ⟨_, rfl⟩, .inr ⟨_, rfl⟩, .inr ⟨_, rfl⟩⟩⟩)
  have q' : RL (m + 3) r' := q'
  have fl := wsD_flat d (wz k h d)
  obtain ⟨a', b', c', rfl, _⟩ := id q'
  refine ⟨_, x10, x11, x12, q', thaw_nx (is := [5]) rfl (δ' := [some (true, PyData.list [.int a', .int b', .int c']), some (false, PyData.str (kn k)), some (false, PyData.int (h)), some (false, PyData.int (d)), some (false, PyData.int ((num k h d : Nat))), some (false, PyData.list (wsD d (wz k h d))), some (true, PyData.list (wsD d (wz k h d))), x7, x8, x9, x10, x11, x12]) ?_ ?_ (oth_5 fl f7 f8 f9 f10 f11 f12)⟩
  · generalize hW : wsD d (wz k h d) = WS at *
    generalize ((num k h d : Nat) : Int) = NN at *
    simp [th_right_3, e_tUnl, e_ext, e_ext0, e_ext1, e_ext2, e_dix, e_dix1, e_dix2, e_look, e_rev, e_rev1, e_lr1, e_lr11, e_isE1, e_isE2, e_isE3, e_isE4, e_isE5, e_isE6, e_try, e_try1, e_try2, e_eqAS, e_neAS, e_eqAI, e_neAI, e_bind_ok, e_bind_exc, e_bind_stk, e_var, e_var1, e_var2, e_move, e_move1, e_move2, e_C, e_fin1, e_bin, e_bin1, e_bin2, e_chain, e_chain1, e_chain2, e_chain3, e_chain4, e_chain5, e_if, e_if1, e_if2, e_tv, e_tv1, e_notT, e_notT1, e_andT, e_andT1, e_andT2, e_orT, e_orT1, e_orT2, e_andV, e_andV1, e_andV2, e_orV, e_orV1, e_orV2, e_notV, e_notV1, e_aNil, e_aCons, e_aCons1, e_aCons2, e_star, e_star1, e_star2, e_star3, e_lst, e_lst1, e_tup, e_tup1, e_call, e_call1, e_slot, e_slot1, e_sb, e_sb0, e_sb1, e_sb2, e_sb3, e_bs, e_bs1, e_bs2, e_lenV, e_lenV1, e_un, e_un1, e_def, e_def1, e_def2, e_def3, e_fix0, e_fix1, e_fix2, e_def4, e_def0, e_def01, e_jNil, e_jVal, e_jVal1, e_j2, e_jIo, e_jIo1, e_itD0, e_itD1, e_itD2, e_itD3, e_itJ0, e_itJ1, e_itJ2, e_itP0, e_itP1, e_itP2, e_setMany0, e_setMany1, e_nodup0, e_nodup1, e_noPart, e_part, e_part1, e_slice, e_slice1, e_slice2, e_slice3, e_lstRg, e_lstRg1, e_lstRg2, e_iSeq, e_iSeq1, e_iSeq2, e_iEn, e_iEn1, e_iEn2, e_iR1, e_iR11, e_iR2, e_iR21, e_yes, e_lc, e_lc1, e_lc2, e_wipe0, e_wipe1, e_back0, e_back1, e_back2, e_noneOwn0, e_noneOwn1, e_noneOwn2, e_noneOwn3, e_noneOwn4, e_name, e_set, e_tNil, e_tCons, e_tCons1, e_tTup, e_seq, e_seq1, e_seq2, e_seq3, e_seq4, e_seq5, e_next, e_break, e_cont, e_expr, e_expr1, e_ret, e_ret1, e_sIf, e_sIf1, e_sIf2, e_asg, e_asg1, e_asg2, e_aug, e_aug0, e_aug1, e_aug2, e_aug3, e_par, e_par1, e_par2, e_app, e_app0, e_app1, e_app2, e_setIx, e_setIx0, e_setIx1, e_setIx2, e_setIx3, e_setIx4, e_match, e_match1, e_mCase, e_mAny, e_raise, e_for, e_body, e_body1, e_body2, e_body3, e_body4, e_body5, e_outs0, e_outs1, e_outs2, e_start0, e_start1, e_addI, e_addL, e_addI2, e_sub, e_cmp, e_eqI, e_neI, e_eqB, e_isN0, e_isN1, e_isN2, e_isN3, e_notN0, e_notN1, e_notN2, e_notN3, e_int, e_intB, e_max, e_min, e_neg, e_bits, e_lenL, e_lenT, e_lenS, e_ixL, e_ixT, e_ixS, e_at0, e_at1, e_at2, e_map, e_lstOf, e_lstOfS, e_seqOf, e_seqOfT, e_seqOfS, e_isiIB, e_isiII, e_isiTT, e_isiLL, g1]
  · show (List.all (wsD d (wz k h d)) flatD && true) = true
    rw [fl]
    rfl
theorem right_ok {m : Nat} {r : D} (q : RL m r) (hm : m ≤ 700000) (k : Kd) (h : Nat) (h0 : 1 ≤ h) (hh : h ≤ 100) : ∃ r', m__law_right [r, .str (kn k), .int h] = .ok (.bool true, false) [r'] ∧ RL (m + 5) r' := by
  obtain ⟨v1, r1, s1, hv1, q1⟩ := spinN q (by omega) h h0 (by omega)
  obtain ⟨v2, r2, s2, hv2, q2⟩ := spinN q1 (by omega) 2 (by omega) (by omega)
  have s2' : m__law_spin [r1, .int 2] = .ok (.int (v2 : Nat), false) [r2] := s2
  obtain ⟨d, hd, e1⟩ : ∃ d : Nat, d < h ∧ dIx (.list [.int (v1 : Nat), .int ((h : Int) - 1)]) (.int (v2 : Nat)) = some (.int (d : Nat), false) := by
    rcases (show v2 = 0 ∨ v2 = 1 by omega) with e | e <;> subst e
    · exact ⟨v1, hv1, id rfl⟩
    · refine ⟨h - 1, by omega, ?_⟩
      rw [show ((h - 1 : Nat) : Int) = (h : Int) - 1 by omega]
      exact id rfl
  have wo := weights_ok k h d hd hh
  obtain ⟨a, b, c, rfl, _⟩ := id q2
  obtain ⟨x7, f7, du⟩ := due_ok k h d hd hh (.list [.int a, .int b, .int c]) (.int (num k h d : Nat)) (.list (wsD d (wz k h d)))
  have t1 := th1_ok k h d hd hh a b c x7 f7
  obtain ⟨x8, x9, f8, f9, t2⟩ := th2_ok k h d hd hh a b c x7 f7
  obtain ⟨r', x10, x11, x12, q3, t3⟩ := th3_ok q2 (by omega) k h d hd hh x7 x8 x9 f7 f8 f9
  have pe := pair_ok k h d hd hh
  refine ⟨r', ?_, q3.mono (by omega)⟩
  have ln : (wsD d (wz k h d)).length < LINE := by rw [wsD_len]; show d < 16777216; omega
  have ln1 : (wsD d (wz k h d)).length + 1 ≤ LINE := ln
  have dd : (d : Int) ≤ 16777216 := by omega
  unfold pairW at pe
  have un : ∀ x4 x5 x6, sUnp [0] 4 5 m_weights 3 (gaCons (gVar 1) (gaCons (gVar 2) (gaCons (gVar 3) gaNil))) [some (true, PyData.list [.int a, .int b, .int c]), some (false, PyData.str (kn k)), some (false, PyData.int (h)), some (false, PyData.int (d)), x4, x5, x6, none, none, none, none, none, none] = .ok .nx [some (true, PyData.list [.int a, .int b, .int c]), some (false, PyData.str (kn k)), some (false, PyData.int (h)), some (false, PyData.int (d)), some (false, PyData.int ((num k h d : Nat))), some (true, PyData.list (wsD d (wz k h d))), x6, none, none, none, none, none, none] := fun x4 x5 x6 => by
    refine (e_unp (xs := [.str (kn k), .int h, .int d]) wo rfl ?_).trans ?_
    · simp [e_tUnl, e_ext, e_ext0, e_ext1, e_ext2, e_dix, e_dix1, e_dix2, e_look, e_rev, e_rev1, e_lr1, e_lr11, e_isE1, e_isE2, e_isE3, e_isE4, e_isE5, e_isE6, e_try, e_try1, e_try2, e_eqAS, e_neAS, e_eqAI, e_neAI, e_bind_ok, e_bind_exc, e_bind_stk, e_var, e_var1, e_var2, e_move, e_move1, e_move2, e_C, e_fin1, e_bin, e_bin1, e_bin2, e_chain, e_chain1, e_chain2, e_chain3, e_chain4, e_chain5, e_if, e_if1, e_if2, e_tv, e_tv1, e_notT, e_notT1, e_andT, e_andT1, e_andT2, e_orT, e_orT1, e_orT2, e_andV, e_andV1, e_andV2, e_orV, e_orV1, e_orV2, e_notV, e_notV1, e_aNil, e_aCons, e_aCons1, e_aCons2, e_star, e_star1, e_star2, e_star3, e_lst, e_lst1, e_tup, e_tup1, e_call, e_call1, e_slot, e_slot1, e_sb, e_sb0, e_sb1, e_sb2, e_sb3, e_bs, e_bs1, e_bs2, e_lenV, e_lenV1, e_un, e_un1, e_def, e_def1, e_def2, e_def3, e_fix0, e_fix1, e_fix2, e_def4, e_def0, e_def01, e_jNil, e_jVal, e_jVal1, e_j2, e_jIo, e_jIo1, e_itD0, e_itD1, e_itD2, e_itD3, e_itJ0, e_itJ1, e_itJ2, e_itP0, e_itP1, e_itP2, e_setMany0, e_setMany1, e_nodup0, e_nodup1, e_noPart, e_part, e_part1, e_slice, e_slice1, e_slice2, e_slice3, e_lstRg, e_lstRg1, e_lstRg2, e_iSeq, e_iSeq1, e_iSeq2, e_iEn, e_iEn1, e_iEn2, e_iR1, e_iR11, e_iR2, e_iR21, e_yes, e_lc, e_lc1, e_lc2, e_wipe0, e_wipe1, e_back0, e_back1, e_back2, e_noneOwn0, e_noneOwn1, e_noneOwn2, e_noneOwn3, e_noneOwn4, e_name, e_set, e_tNil, e_tCons, e_tCons1, e_tTup, e_seq, e_seq1, e_seq2, e_seq3, e_seq4, e_seq5, e_next, e_break, e_cont, e_expr, e_expr1, e_ret, e_ret1, e_sIf, e_sIf1, e_sIf2, e_asg, e_asg1, e_asg2, e_aug, e_aug0, e_aug1, e_aug2, e_aug3, e_par, e_par1, e_par2, e_app, e_app0, e_app1, e_app2, e_setIx, e_setIx0, e_setIx1, e_setIx2, e_setIx3, e_setIx4, e_match, e_match1, e_mCase, e_mAny, e_raise, e_for, e_body, e_body1, e_body2, e_body3, e_body4, e_body5, e_outs0, e_outs1, e_outs2, e_start0, e_start1, e_addI, e_addL, e_addI2, e_sub, e_cmp, e_eqI, e_neI, e_eqB, e_isN0, e_isN1, e_isN2, e_isN3, e_notN0, e_notN1, e_notN2, e_notN3, e_int, e_intB, e_max, e_min, e_neg, e_bits, e_lenL, e_lenT, e_lenS, e_ixL, e_ixT, e_ixS, e_at0, e_at1, e_at2, e_map, e_lstOf, e_lstOfS, e_seqOf, e_seqOfT, e_seqOfS, e_isiIB, e_isiII, e_isiTT, e_isiLL]
    · simp
  generalize wsD d (wz k h d) = WS at *
  generalize ((num k h d : Nat) : Int) = NN at *
  generalize ((v1 : Nat) : Int) = V1 at *
  generalize ((v2 : Nat) : Int) = V2 at *
  simp [m__law_right, b__law_right, e_tUnl, e_ext, e_ext0, e_ext1, e_ext2, e_dix, e_dix1, e_dix2, e_look, e_rev, e_rev1, e_lr1, e_lr11, e_isE1, e_isE2, e_isE3, e_isE4, e_isE5, e_isE6, e_try, e_try1, e_try2, e_eqAS, e_neAS, e_eqAI, e_neAI, e_bind_ok, e_bind_exc, e_bind_stk, e_var, e_var1, e_var2, e_move, e_move1, e_move2, e_C, e_fin1, e_bin, e_bin1, e_bin2, e_chain, e_chain1, e_chain2, e_chain3, e_chain4, e_chain5, e_if, e_if1, e_if2, e_tv, e_tv1, e_notT, e_notT1, e_andT, e_andT1, e_andT2, e_orT, e_orT1, e_orT2, e_andV, e_andV1, e_andV2, e_orV, e_orV1, e_orV2, e_notV, e_notV1, e_aNil, e_aCons, e_aCons1, e_aCons2, e_star, e_star1, e_star2, e_star3, e_lst, e_lst1, e_tup, e_tup1, e_call, e_call1, e_slot, e_slot1, e_sb, e_sb0, e_sb1, e_sb2, e_sb3, e_bs, e_bs1, e_bs2, e_lenV, e_lenV1, e_un, e_un1, e_def, e_def1, e_def2, e_def3, e_fix0, e_fix1, e_fix2, e_def4, e_def0, e_def01, e_jNil, e_jVal, e_jVal1, e_j2, e_jIo, e_jIo1, e_itD0, e_itD1, e_itD2, e_itD3, e_itJ0, e_itJ1, e_itJ2, e_itP0, e_itP1, e_itP2, e_setMany0, e_setMany1, e_nodup0, e_nodup1, e_noPart, e_part, e_part1, e_slice, e_slice1, e_slice2, e_slice3, e_lstRg, e_lstRg1, e_lstRg2, e_iSeq, e_iSeq1, e_iSeq2, e_iEn, e_iEn1, e_iEn2, e_iR1, e_iR11, e_iR2, e_iR21, e_yes, e_lc, e_lc1, e_lc2, e_wipe0, e_wipe1, e_back0, e_back1, e_back2, e_noneOwn0, e_noneOwn1, e_noneOwn2, e_noneOwn3, e_noneOwn4, e_name, e_set, e_tNil, e_tCons, e_tCons1, e_tTup, e_seq, e_seq1, e_seq2, e_seq3, e_seq4, e_seq5, e_next, e_break, e_cont, e_expr, e_expr1, e_ret, e_ret1, e_sIf, e_sIf1, e_sIf2, e_asg, e_asg1, e_asg2, e_aug, e_aug0, e_aug1, e_aug2, e_aug3, e_par, e_par1, e_par2, e_app, e_app0, e_app1, e_app2, e_setIx, e_setIx0, e_setIx1, e_setIx2, e_setIx3, e_setIx4, e_match, e_match1, e_mCase, e_mAny, e_raise, e_for, e_body, e_body1, e_body2, e_body3, e_body4, e_body5, e_outs0, e_outs1, e_outs2, e_start0, e_start1, e_addI, e_addL, e_addI2, e_sub, e_cmp, e_eqI, e_neI, e_eqB, e_isN0, e_isN1, e_isN2, e_isN3, e_notN0, e_notN1, e_notN2, e_notN3, e_int, e_intB, e_max, e_min, e_neg, e_bits, e_lenL, e_lenT, e_lenS, e_ixL, e_ixT, e_ixS, e_at0, e_at1, e_at2, e_map, e_lstOf, e_lstOfS, e_seqOf, e_seqOfT, e_seqOfS, e_isiIB, e_isiII, e_isiTT, e_isiLL, s1, s2', e1, un, du, t1, t2, t3, ln, ln1, wo, pe, dd, l0, l2, -e_ixL]
theorem all_right (ns : List Int) (x1 x4 : Option (Bool × D)) {r : D} {m : Nat} (q : RL m r) (hm : m ≤ 10) (h : Nat) (h0 : 1 ≤ h) (hh : h ≤ 100) : ∃ r', lcD [5] (gtName [] 5) ct_law_1 ce_law_1 kindsL [] [some (false, scrD ns), x1, some (true, r), some (false, PyData.int (h)), x4, none] = .ok [] [some (false, scrD ns), x1, some (true, r'), some (false, PyData.int (h)), x4, none] := by
  obtain ⟨acc, δ', h1, h2, r', rfl, _⟩ := lcD_inv (vs := [5]) (tgt := gtName [] 5) (gt := ct_law_1) (ge := ce_law_1) (ds := kindsL) (fun i acc δ => acc = [] ∧ ∃ r', δ = [some (false, scrD ns), x1, some (true, r'), some (false, PyData.int (h)), x4, none] ∧ RL (m + 5 * i) r') (δ := [some (false, scrD ns), x1, some (true, r), some (false, PyData.int (h)), x4, none]) ⟨rfl, r, rfl, q⟩ (by
    rintro i x acc δ hx ⟨rfl, r', rfl, q'⟩
    have hi := (List.getElem?_eq_some_iff.mp hx).1
    have hi : i < 7 := hi
    obtain ⟨k, rfl⟩ := kinds_get hx
    obtain ⟨r2, e1, e2⟩ := right_ok q' (by omega) k h h0 hh
    generalize scrD ns = SC at *
    exact ⟨_, by simp [e_tUnl, e_ext, e_ext0, e_ext1, e_ext2, e_dix, e_dix1, e_dix2, e_look, e_rev, e_rev1, e_lr1, e_lr11, e_isE1, e_isE2, e_isE3, e_isE4, e_isE5, e_isE6, e_try, e_try1, e_try2, e_eqAS, e_neAS, e_eqAI, e_neAI, e_bind_ok, e_bind_exc, e_bind_stk, e_var, e_var1, e_var2, e_move, e_move1, e_move2, e_C, e_fin1, e_bin, e_bin1, e_bin2, e_chain, e_chain1, e_chain2, e_chain3, e_chain4, e_chain5, e_if, e_if1, e_if2, e_tv, e_tv1, e_notT, e_notT1, e_andT, e_andT1, e_andT2, e_orT, e_orT1, e_orT2, e_andV, e_andV1, e_andV2, e_orV, e_orV1, e_orV2, e_notV, e_notV1, e_aNil, e_aCons, e_aCons1, e_aCons2, e_star, e_star1, e_star2, e_star3, e_lst, e_lst1, e_tup, e_tup1, e_call, e_call1, e_slot, e_slot1, e_sb, e_sb0, e_sb1, e_sb2, e_sb3, e_bs, e_bs1, e_bs2, e_lenV, e_lenV1, e_un, e_un1, e_def, e_def1, e_def2, e_def3, e_fix0, e_fix1, e_fix2, e_def4, e_def0, e_def01, e_jNil, e_jVal, e_jVal1, e_j2, e_jIo, e_jIo1, e_itD0, e_itD1, e_itD2, e_itD3, e_itJ0, e_itJ1, e_itJ2, e_itP0, e_itP1, e_itP2, e_setMany0, e_setMany1, e_nodup0, e_nodup1, e_noPart, e_part, e_part1, e_slice, e_slice1, e_slice2, e_slice3, e_lstRg, e_lstRg1, e_lstRg2, e_iSeq, e_iSeq1, e_iSeq2, e_iEn, e_iEn1, e_iEn2, e_iR1, e_iR11, e_iR2, e_iR21, e_yes, e_lc, e_lc1, e_lc2, e_wipe0, e_wipe1, e_back0, e_back1, e_back2, e_noneOwn0, e_noneOwn1, e_noneOwn2, e_noneOwn3, e_noneOwn4, e_name, e_set, e_tNil, e_tCons, e_tCons1, e_tTup, e_seq, e_seq1, e_seq2, e_seq3, e_seq4, e_seq5, e_next, e_break, e_cont, e_expr, e_expr1, e_ret, e_ret1, e_sIf, e_sIf1, e_sIf2, e_asg, e_asg1, e_asg2, e_aug, e_aug0, e_aug1, e_aug2, e_aug3, e_par, e_par1, e_par2, e_app, e_app0, e_app1, e_app2, e_setIx, e_setIx0, e_setIx1, e_setIx2, e_setIx3, e_setIx4, e_match, e_match1, e_mCase, e_mAny, e_raise, e_for, e_body, e_body1, e_body2, e_body3, e_body4, e_body5, e_outs0, e_outs1, e_outs2, e_start0, e_start1, e_addI, e_addL, e_addI2, e_sub, e_cmp, e_eqI, e_neI, e_eqB, e_isN0, e_isN1, e_isN2, e_isN3, e_notN0, e_notN1, e_notN2, e_notN3, e_int, e_intB, e_max, e_min, e_neg, e_bits, e_lenL, e_lenT, e_lenS, e_ixL, e_ixT, e_ixS, e_at0, e_at1, e_at2, e_map, e_lstOf, e_lstOfS, e_seqOf, e_seqOfT, e_seqOfS, e_isiIB, e_isiII, e_isiTT, e_isiLL]; rfl, .inr ⟨_, by simp [ct_law_1, e_tUnl, e_ext, e_ext0, e_ext1, e_ext2, e_dix, e_dix1, e_dix2, e_look, e_rev, e_rev1, e_lr1, e_lr11, e_isE1, e_isE2, e_isE3, e_isE4, e_isE5, e_isE6, e_try, e_try1, e_try2, e_eqAS, e_neAS, e_eqAI, e_neAI, e_bind_ok, e_bind_exc, e_bind_stk, e_var, e_var1, e_var2, e_move, e_move1, e_move2, e_C, e_fin1, e_bin, e_bin1, e_bin2, e_chain, e_chain1, e_chain2, e_chain3, e_chain4, e_chain5, e_if, e_if1, e_if2, e_tv, e_tv1, e_notT, e_notT1, e_andT, e_andT1, e_andT2, e_orT, e_orT1, e_orT2, e_andV, e_andV1, e_andV2, e_orV, e_orV1, e_orV2, e_notV, e_notV1, e_aNil, e_aCons, e_aCons1, e_aCons2, e_star, e_star1, e_star2, e_star3, e_lst, e_lst1, e_tup, e_tup1, e_call, e_call1, e_slot, e_slot1, e_sb, e_sb0, e_sb1, e_sb2, e_sb3, e_bs, e_bs1, e_bs2, e_lenV, e_lenV1, e_un, e_un1, e_def, e_def1, e_def2, e_def3, e_fix0, e_fix1, e_fix2, e_def4, e_def0, e_def01, e_jNil, e_jVal, e_jVal1, e_j2, e_jIo, e_jIo1, e_itD0, e_itD1, e_itD2, e_itD3, e_itJ0, e_itJ1, e_itJ2, e_itP0, e_itP1, e_itP2, e_setMany0, e_setMany1, e_nodup0, e_nodup1, e_noPart, e_part, e_part1, e_slice, e_slice1, e_slice2, e_slice3, e_lstRg, e_lstRg1, e_lstRg2, e_iSeq, e_iSeq1, e_iSeq2, e_iEn, e_iEn1, e_iEn2, e_iR1, e_iR11, e_iR2, e_iR21, e_yes, e_lc, e_lc1, e_lc2, e_wipe0, e_wipe1, e_back0, e_back1, e_back2, e_noneOwn0, e_noneOwn1, e_noneOwn2, e_noneOwn3, e_noneOwn4, e_name, e_set, e_tNil, e_tCons, e_tCons1, e_tTup, e_seq, e_seq1, e_seq2, e_seq3, e_seq4, e_seq5, e_next, e_break, e_cont, e_expr, e_expr1, e_ret, e_ret1, e_sIf, e_sIf1, e_sIf2, e_asg, e_asg1, e_asg2, e_aug, e_aug0, e_aug1, e_aug2, e_aug3, e_par, e_par1, e_par2, e_app, e_app0, e_app1, e_app2, e_setIx, e_setIx0, e_setIx1, e_setIx2, e_setIx3, e_setIx4, e_match, e_match1, e_mCase, e_mAny, e_raise, e_for, e_body, e_body1, e_body2, e_body3, e_body4, e_body5, e_outs0, e_outs1, e_outs2, e_start0, e_start1, e_addI, e_addL, e_addI2, e_sub, e_cmp, e_eqI, e_neI, e_eqB, e_isN0, e_isN1, e_isN2, e_isN3, e_notN0, e_notN1, e_notN2, e_notN3, e_int, e_intB, e_max, e_min, e_neg, e_bits, e_lenL, e_lenT, e_lenS, e_ixL, e_ixT, e_ixS, e_at0, e_at1, e_at2, e_map, e_lstOf, e_lstOfS, e_seqOf, e_seqOfT, e_seqOfS, e_isiIB, e_isiII, e_isiTT, e_isiLL, e1]; rfl, rfl, r2, by simp [e_tUnl, e_ext, e_ext0, e_ext1, e_ext2, e_dix, e_dix1, e_dix2, e_look, e_rev, e_rev1, e_lr1, e_lr11, e_isE1, e_isE2, e_isE3, e_isE4, e_isE5, e_isE6, e_try, e_try1, e_try2, e_eqAS, e_neAS, e_eqAI, e_neAI, e_bind_ok, e_bind_exc, e_bind_stk, e_var, e_var1, e_var2, e_move, e_move1, e_move2, e_C, e_fin1, e_bin, e_bin1, e_bin2, e_chain, e_chain1, e_chain2, e_chain3, e_chain4, e_chain5, e_if, e_if1, e_if2, e_tv, e_tv1, e_notT, e_notT1, e_andT, e_andT1, e_andT2, e_orT, e_orT1, e_orT2, e_andV, e_andV1, e_andV2, e_orV, e_orV1, e_orV2, e_notV, e_notV1, e_aNil, e_aCons, e_aCons1, e_aCons2, e_star, e_star1, e_star2, e_star3, e_lst, e_lst1, e_tup, e_tup1, e_call, e_call1, e_slot, e_slot1, e_sb, e_sb0, e_sb1, e_sb2, e_sb3, e_bs, e_bs1, e_bs2, e_lenV, e_lenV1, e_un, e_un1, e_def, e_def1, e_def2, e_def3, e_fix0, e_fix1, e_fix2, e_def4, e_def0, e_def01, e_jNil, e_jVal, e_jVal1, e_j2, e_jIo, e_jIo1, e_itD0, e_itD1, e_itD2, e_itD3, e_itJ0, e_itJ1, e_itJ2, e_itP0, e_itP1, e_itP2, e_setMany0, e_setMany1, e_nodup0, e_nodup1, e_noPart, e_part, e_part1, e_slice, e_slice1, e_slice2, e_slice3, e_lstRg, e_lstRg1, e_lstRg2, e_iSeq, e_iSeq1, e_iSeq2, e_iEn, e_iEn1, e_iEn2, e_iR1, e_iR11, e_iR2, e_iR21, e_yes, e_lc, e_lc1, e_lc2, e_wipe0, e_wipe1, e_back0, e_back1, e_back2, e_noneOwn0, e_noneOwn1, e_noneOwn2, e_noneOwn3, e_noneOwn4, e_name, e_set, e_tNil, e_tCons, e_tCons1, e_tTup, e_seq, e_seq1, e_seq2, e_seq3, e_seq4, e_seq5, e_next, e_break, e_cont, e_expr, e_expr1, e_ret, e_ret1, e_sIf, e_sIf1, e_sIf2, e_asg, e_asg1, e_asg2, e_aug, e_aug0, e_aug1, e_aug2, e_aug3, e_par, e_par1, e_par2, e_app, e_app0, e_app1, e_app2, e_setIx, e_setIx0, e_setIx1, e_setIx2, e_setIx3, e_setIx4, e_match, e_match1, e_mCase, e_mAny, e_raise, e_for, e_body, e_body1, e_body2, e_body3, e_body4, e_body5, e_outs0, e_outs1, e_outs2, e_start0, e_start1, e_addI, e_addL, e_addI2, e_sub, e_cmp, e_eqI, e_neI, e_eqB, e_isN0, e_isN1, e_isN2, e_isN3, e_notN0, e_notN1, e_notN2, e_notN3, e_int, e_intB, e_max, e_min, e_neg, e_bits, e_lenL, e_lenT, e_lenS, e_ixL, e_ixT, e_ixS, e_at0, e_at1, e_at2, e_map, e_lstOf, e_lstOfS, e_seqOf, e_seqOfT, e_seqOfS, e_isiIB, e_isiII, e_isiTT, e_isiLL], e2.mono (by omega)⟩⟩)
  exact ⟨r', by rw [h1, h2]⟩
theorem neN : dNeA (.list []) (.list []) = some (.bool false, false) := by kernel_rfl
def w1 : D := .tuple [.int 4, .list [.int 6, .int 3, .int 1]]
def w2 : D := .tuple [.int 2, .list [.int 7, .int 3]]
def w3 : D := .tuple [.int 14, .list []]
def w4 : D := .tuple [.int 0, .list [.int 8, .int 4, .int 2]]
theorem wo1 : m_weights [.str z_lesser, .int 4, .int 3] = .ok (w1, true) [] := by kernel_rfl
theorem wo2 : m_weights [.str z_preorder, .int 4, .int 2] = .ok (w2, true) [] := by kernel_rfl
theorem wo3 : m_weights [.str z_postorder, .int 4, .int 0] = .ok (w3, true) [] := by kernel_rfl
theorem wo4 : m_weights [.str z_inorder, .int 4, .int 3] = .ok (w4, true) [] := by kernel_rfl
theorem weq : dEqA (.list [w1, w2, w3, w4]) (.list [w1, w2, w3, w4]) = some (.bool true, false) := by kernel_rfl
theorem fx (d : Int) (xs : List D) (b : Bool) : fixF (.tuple [.int d, .list xs], b) = (.tuple [.int d, .list xs], false) := id rfl
theorem law_true (ns : List Int) (hns : ns.length ≤ 63) (_ : ∀ z ∈ ns, Builtin.Int.intBits z ≤ 1048576) : ∃ fr outs, m_law [scrD ns] = .ok (.bool true, fr) outs := by
  obtain ⟨K, hK1, hK2, hc⟩ := cells_ok ns [none, none, none, none, none] 4 (by omega) (by omega)
  have ln : (rgN 0 K).length = K := by simp [rgN]
  obtain ⟨δ', h1, x1, x2, x3, x4, rfl⟩ := forD_inv (tgt := gtName [] 1) (body := lb_law_1) (ds := rgN 0 K) (δ := [some (false, scrD ns), none, none, none, none, none])
    (fun i δ => ∃ x1 x2 x3 x4, δ = [some (false, scrD ns), x1, x2, x3, x4, none]) ⟨none, none, none, none, rfl⟩ (by
      rintro i x δ hx ⟨x1, x2, x3, x4, rfl⟩
      obtain ⟨hi, e⟩ := List.getElem?_eq_some_iff.mp hx
      rw [ln] at hi
      have e : x = .int (i : Int) := by rw [← e]; simp [rgN]
      subst e
      obtain ⟨r, e1, q⟩ := wound_ok ns i (by omega)
      have fxr : fixF (r, true) = (r, true) := by obtain ⟨_, _, _, rfl, _⟩ := id q; rfl
      obtain ⟨v1, r1, s1, hv1, q1⟩ := spinN q (by omega) 2 (by omega) (by omega)
      have s1' : m__law_spin [r, .int 2] = .ok (.int (v1 : Nat), false) [r1] := s1
      obtain ⟨g, hg, hg2, e2⟩ : ∃ g : Nat, 0 < g ∧ g ≤ 100 ∧ dIx (.list [.int 9, .int 100]) (.int (v1 : Nat)) = some (.int (g : Nat), false) := by
        rcases (show v1 = 0 ∨ v1 = 1 by omega) with e | e <;> subst e
        · exact ⟨9, by omega, by omega, id rfl⟩
        · exact ⟨100, by omega, by omega, id rfl⟩
      obtain ⟨v2, r2, s2, hv2, q2⟩ := spinN q1 (by omega) g hg (by omega)
      obtain ⟨h, hh⟩ : ∃ h : Nat, (1 : Int) + (v2 : Int) = (h : Int) := ⟨v2 + 1, by omega⟩
      obtain ⟨r3, ar⟩ := all_right ns (some (false, PyData.int ((i : Int)))) x4 q2 (by omega) h (by omega) (by omega)
      have kk := kinds_ok
      have kl : kindsL.length ≤ LINE := lE 7 (by omega)
      have nn := neN
      have l2 := l2
      have l0 := l0
      refine ⟨[some (false, scrD ns), some (false, PyData.int ((i : Int))), x2, x3, x4, none], by simp [e_tUnl, e_ext, e_ext0, e_ext1, e_ext2, e_dix, e_dix1, e_dix2, e_look, e_rev, e_rev1, e_lr1, e_lr11, e_isE1, e_isE2, e_isE3, e_isE4, e_isE5, e_isE6, e_try, e_try1, e_try2, e_eqAS, e_neAS, e_eqAI, e_neAI, e_bind_ok, e_bind_exc, e_bind_stk, e_var, e_var1, e_var2, e_move, e_move1, e_move2, e_C, e_fin1, e_bin, e_bin1, e_bin2, e_chain, e_chain1, e_chain2, e_chain3, e_chain4, e_chain5, e_if, e_if1, e_if2, e_tv, e_tv1, e_notT, e_notT1, e_andT, e_andT1, e_andT2, e_orT, e_orT1, e_orT2, e_andV, e_andV1, e_andV2, e_orV, e_orV1, e_orV2, e_notV, e_notV1, e_aNil, e_aCons, e_aCons1, e_aCons2, e_star, e_star1, e_star2, e_star3, e_lst, e_lst1, e_tup, e_tup1, e_call, e_call1, e_slot, e_slot1, e_sb, e_sb0, e_sb1, e_sb2, e_sb3, e_bs, e_bs1, e_bs2, e_lenV, e_lenV1, e_un, e_un1, e_def, e_def1, e_def2, e_def3, e_fix0, e_fix1, e_fix2, e_def4, e_def0, e_def01, e_jNil, e_jVal, e_jVal1, e_j2, e_jIo, e_jIo1, e_itD0, e_itD1, e_itD2, e_itD3, e_itJ0, e_itJ1, e_itJ2, e_itP0, e_itP1, e_itP2, e_setMany0, e_setMany1, e_nodup0, e_nodup1, e_noPart, e_part, e_part1, e_slice, e_slice1, e_slice2, e_slice3, e_lstRg, e_lstRg1, e_lstRg2, e_iSeq, e_iSeq1, e_iSeq2, e_iEn, e_iEn1, e_iEn2, e_iR1, e_iR11, e_iR2, e_iR21, e_yes, e_lc, e_lc1, e_lc2, e_wipe0, e_wipe1, e_back0, e_back1, e_back2, e_noneOwn0, e_noneOwn1, e_noneOwn2, e_noneOwn3, e_noneOwn4, e_name, e_set, e_tNil, e_tCons, e_tCons1, e_tTup, e_seq, e_seq1, e_seq2, e_seq3, e_seq4, e_seq5, e_next, e_break, e_cont, e_expr, e_expr1, e_ret, e_ret1, e_sIf, e_sIf1, e_sIf2, e_asg, e_asg1, e_asg2, e_aug, e_aug0, e_aug1, e_aug2, e_aug3, e_par, e_par1, e_par2, e_app, e_app0, e_app1, e_app2, e_setIx, e_setIx0, e_setIx1, e_setIx2, e_setIx3, e_setIx4, e_match, e_match1, e_mCase, e_mAny, e_raise, e_for, e_body, e_body1, e_body2, e_body3, e_body4, e_body5, e_outs0, e_outs1, e_outs2, e_start0, e_start1, e_addI, e_addL, e_addI2, e_sub, e_cmp, e_eqI, e_neI, e_eqB, e_isN0, e_isN1, e_isN2, e_isN3, e_notN0, e_notN1, e_notN2, e_notN3, e_int, e_intB, e_max, e_min, e_neg, e_bits, e_lenL, e_lenT, e_lenS, e_ixL, e_ixT, e_ixS, e_at0, e_at1, e_at2, e_map, e_lstOf, e_lstOfS, e_seqOf, e_seqOfT, e_seqOfS, e_isiIB, e_isiII, e_isiTT, e_isiLL], [some (false, scrD ns), some (false, PyData.int ((i : Int))), some (true, r3), some (false, PyData.int ((h : Nat))), x4, none], ?_, _, _, _, _, rfl⟩
      generalize scrD ns = SC at *
      generalize kindsL = KL at *
      generalize ((v1 : Nat) : Int) = V1 at *
      generalize ((g : Nat) : Int) = GG at *
      simp [lb_law_1, e_tUnl, e_ext, e_ext0, e_ext1, e_ext2, e_dix, e_dix1, e_dix2, e_look, e_rev, e_rev1, e_lr1, e_lr11, e_isE1, e_isE2, e_isE3, e_isE4, e_isE5, e_isE6, e_try, e_try1, e_try2, e_eqAS, e_neAS, e_eqAI, e_neAI, e_bind_ok, e_bind_exc, e_bind_stk, e_var, e_var1, e_var2, e_move, e_move1, e_move2, e_C, e_fin1, e_bin, e_bin1, e_bin2, e_chain, e_chain1, e_chain2, e_chain3, e_chain4, e_chain5, e_if, e_if1, e_if2, e_tv, e_tv1, e_notT, e_notT1, e_andT, e_andT1, e_andT2, e_orT, e_orT1, e_orT2, e_andV, e_andV1, e_andV2, e_orV, e_orV1, e_orV2, e_notV, e_notV1, e_aNil, e_aCons, e_aCons1, e_aCons2, e_star, e_star1, e_star2, e_star3, e_lst, e_lst1, e_tup, e_tup1, e_call, e_call1, e_slot, e_slot1, e_sb, e_sb0, e_sb1, e_sb2, e_sb3, e_bs, e_bs1, e_bs2, e_lenV, e_lenV1, e_un, e_un1, e_def, e_def1, e_def2, e_def3, e_fix0, e_fix1, e_fix2, e_def4, e_def0, e_def01, e_jNil, e_jVal, e_jVal1, e_j2, e_jIo, e_jIo1, e_itD0, e_itD1, e_itD2, e_itD3, e_itJ0, e_itJ1, e_itJ2, e_itP0, e_itP1, e_itP2, e_setMany0, e_setMany1, e_nodup0, e_nodup1, e_noPart, e_part, e_part1, e_slice, e_slice1, e_slice2, e_slice3, e_lstRg, e_lstRg1, e_lstRg2, e_iSeq, e_iSeq1, e_iSeq2, e_iEn, e_iEn1, e_iEn2, e_iR1, e_iR11, e_iR2, e_iR21, e_yes, e_lc, e_lc1, e_lc2, e_wipe0, e_wipe1, e_back0, e_back1, e_back2, e_noneOwn0, e_noneOwn1, e_noneOwn2, e_noneOwn3, e_noneOwn4, e_name, e_set, e_tNil, e_tCons, e_tCons1, e_tTup, e_seq, e_seq1, e_seq2, e_seq3, e_seq4, e_seq5, e_next, e_break, e_cont, e_expr, e_expr1, e_ret, e_ret1, e_sIf, e_sIf1, e_sIf2, e_asg, e_asg1, e_asg2, e_aug, e_aug0, e_aug1, e_aug2, e_aug3, e_par, e_par1, e_par2, e_app, e_app0, e_app1, e_app2, e_setIx, e_setIx0, e_setIx1, e_setIx2, e_setIx3, e_setIx4, e_match, e_match1, e_mCase, e_mAny, e_raise, e_for, e_body, e_body1, e_body2, e_body3, e_body4, e_body5, e_outs0, e_outs1, e_outs2, e_start0, e_start1, e_addI, e_addL, e_addI2, e_sub, e_cmp, e_eqI, e_neI, e_eqB, e_isN0, e_isN1, e_isN2, e_isN3, e_notN0, e_notN1, e_notN2, e_notN3, e_int, e_intB, e_max, e_min, e_neg, e_bits, e_lenL, e_lenT, e_lenS, e_ixL, e_ixT, e_ixS, e_at0, e_at1, e_at2, e_map, e_lstOf, e_lstOfS, e_seqOf, e_seqOfT, e_seqOfS, e_isiIB, e_isiII, e_isiTT, e_isiLL, fxr, e1, s1', e2, s2, hh, kk, ar, kl, nn, l2, l0, -e_ixL])
  have o1 := wo1
  have o2 := wo2
  have o3 := wo3
  have o4 := wo4
  have oe := weq
  unfold w1 at o1
  unfold w2 at o2
  unfold w3 at o3
  unfold w4 at o4
  unfold w1 w2 w3 w4 at oe
  have cc : (K : Int) ≤ 16777216 := by omega
  have l4 := l4
  have l3 := l3
  have l2 := l2
  have l0 := l0
  have cc2 : (-1000000 : Int) ≤ K ∧ (K : Int) ≤ 16777216 := by omega
  have rg : giRg1 (gaCons (gCall dMax2 (gaCons (gC (.int 1)) (gaCons (gCall dMin2 (gaCons (gC (.int 4)) (gaCons (gLenV 0) gaNil))) gaNil))) gaNil) [some (false, scrD ns), none, none, none, none, none] = .ok (rgN 0 K) [some (false, scrD ns), none, none, none, none, none] := by
    simp only [e_iR1, e_aCons, hc, e_bind_ok, e_aCons1, e_aNil, e_aCons2, e_iR11]
    rw [if_pos cc2]
    simp
  refine ⟨false, [], ?_⟩
  simp only [m_law, b_law]
  generalize scrD ns = SC at *
  simp [e_tUnl, e_ext, e_ext0, e_ext1, e_ext2, e_dix, e_dix1, e_dix2, e_look, e_rev, e_rev1, e_lr1, e_lr11, e_isE1, e_isE2, e_isE3, e_isE4, e_isE5, e_isE6, e_try, e_try1, e_try2, e_eqAS, e_neAS, e_eqAI, e_neAI, e_bind_ok, e_bind_exc, e_bind_stk, e_var, e_var1, e_var2, e_move, e_move1, e_move2, e_C, e_fin1, e_bin, e_bin1, e_bin2, e_chain, e_chain1, e_chain2, e_chain3, e_chain4, e_chain5, e_if, e_if1, e_if2, e_tv, e_tv1, e_notT, e_notT1, e_andT, e_andT1, e_andT2, e_orT, e_orT1, e_orT2, e_andV, e_andV1, e_andV2, e_orV, e_orV1, e_orV2, e_notV, e_notV1, e_aNil, e_aCons, e_aCons1, e_aCons2, e_star, e_star1, e_star2, e_star3, e_lst, e_lst1, e_tup, e_tup1, e_call, e_call1, e_slot, e_slot1, e_sb, e_sb0, e_sb1, e_sb2, e_sb3, e_bs, e_bs1, e_bs2, e_lenV, e_lenV1, e_un, e_un1, e_def, e_def1, e_def2, e_def3, e_fix0, e_fix1, e_fix2, e_def4, e_def0, e_def01, e_jNil, e_jVal, e_jVal1, e_j2, e_jIo, e_jIo1, e_itD0, e_itD1, e_itD2, e_itD3, e_itJ0, e_itJ1, e_itJ2, e_itP0, e_itP1, e_itP2, e_setMany0, e_setMany1, e_nodup0, e_nodup1, e_noPart, e_part, e_part1, e_slice, e_slice1, e_slice2, e_slice3, e_lstRg, e_lstRg1, e_lstRg2, e_iSeq, e_iSeq1, e_iSeq2, e_iEn, e_iEn1, e_iEn2, e_iR1, e_iR11, e_iR2, e_iR21, e_yes, e_lc, e_lc1, e_lc2, e_wipe0, e_wipe1, e_back0, e_back1, e_back2, e_noneOwn0, e_noneOwn1, e_noneOwn2, e_noneOwn3, e_noneOwn4, e_name, e_set, e_tNil, e_tCons, e_tCons1, e_tTup, e_seq, e_seq1, e_seq2, e_seq3, e_seq4, e_seq5, e_next, e_break, e_cont, e_expr, e_expr1, e_ret, e_ret1, e_sIf, e_sIf1, e_sIf2, e_asg, e_asg1, e_asg2, e_aug, e_aug0, e_aug1, e_aug2, e_aug3, e_par, e_par1, e_par2, e_app, e_app0, e_app1, e_app2, e_setIx, e_setIx0, e_setIx1, e_setIx2, e_setIx3, e_setIx4, e_match, e_match1, e_mCase, e_mAny, e_raise, e_for, e_body, e_body1, e_body2, e_body3, e_body4, e_body5, e_outs0, e_outs1, e_outs2, e_start0, e_start1, e_addI, e_addL, e_addI2, e_sub, e_cmp, e_eqI, e_neI, e_eqB, e_isN0, e_isN1, e_isN2, e_isN3, e_notN0, e_notN1, e_notN2, e_notN3, e_int, e_intB, e_max, e_min, e_neg, e_bits, e_lenL, e_lenT, e_lenS, e_ixL, e_ixT, e_ixS, e_at0, e_at1, e_at2, e_map, e_lstOf, e_lstOfS, e_seqOf, e_seqOfT, e_seqOfS, e_isiIB, e_isiII, e_isiTT, e_isiLL, rg, h1, o1, o2, o3, o4, oe, l4, l3, l2, l0, -e_iR1]
end SM


namespace SM
open PySem PySem.Spec L2 DL
open PyProof.Rows hiding St
def top (i : Nat) : Stmt := PySem.Challenge.pw_storedtrees_k03_weights_of_steps.main.body.getD i (.Pass ⟨0, 0, 0, 0⟩)
abbrev s__law_wound : Stmt := top 26
abbrev s_require_kind : Stmt := top 12
abbrev s_is_int : Stmt := top 9
abbrev s_is_whole : Stmt := top 10
abbrev s_require_height : Stmt := top 13
abbrev s_require_tree : Stmt := top 22
abbrev s_require_depth : Stmt := top 15
abbrev s_plain_sums : Stmt := top 19
abbrev s_cut_levels : Stmt := top 18
abbrev s_sums_of : Stmt := top 20
abbrev s_weights : Stmt := top 24
abbrev s__law_spin : Stmt := top 27
abbrev s__law_kinds : Stmt := top 28
abbrev s_is_node : Stmt := top 11
abbrev s_require_node : Stmt := top 14
abbrev s_spot_of : Stmt := top 21
abbrev s_place_of : Stmt := top 23
abbrev s__law_right : Stmt := top 29
abbrev s_law : Stmt := top 30
structure Ad where
  cl : Nat → Addr
  f__law_wound : Addr
  d__law_wound : FuncData
  f_require_kind : Addr
  d_require_kind : FuncData
  f_is_int : Addr
  d_is_int : FuncData
  f_is_whole : Addr
  d_is_whole : FuncData
  f_require_height : Addr
  d_require_height : FuncData
  f_require_tree : Addr
  d_require_tree : FuncData
  f_require_depth : Addr
  d_require_depth : FuncData
  f_plain_sums : Addr
  d_plain_sums : FuncData
  f_cut_levels : Addr
  d_cut_levels : FuncData
  f_sums_of : Addr
  d_sums_of : FuncData
  f_weights : Addr
  d_weights : FuncData
  f__law_spin : Addr
  d__law_spin : FuncData
  f__law_kinds : Addr
  d__law_kinds : FuncData
  f_is_node : Addr
  d_is_node : FuncData
  f_require_node : Addr
  d_require_node : FuncData
  f_spot_of : Addr
  d_spot_of : FuncData
  f_place_of : Addr
  d_place_of : FuncData
  f__law_right : Addr
  d__law_right : FuncData
  f_law : Addr
  d_law : FuncData
  a_CUT_KINDS : Addr
  a_KINDS : Addr
  k_MOST_HEIGHT : Tok
def ct (K : PySem.W.Frag) (A : Ad) : Ct := ⟨K, A.cl, fun c => match c with | 1 => "item" | 2 => "part" | _ => "total"⟩
structure Txt (K : PySem.W.Frag) (mg : Str → Option Value) (A : Ad) : Prop where
  F__law_wound : Fun K "_law_wound" "_law_wound" s__law_wound A.f__law_wound A.d__law_wound
  m__law_wound : mg "_law_wound" = some (.ref A.f__law_wound)
  k__law_wound : PySem.W.keepIn K (.ref A.f__law_wound) = true
  b__law_wound : Binds K A.d__law_wound ["_law_script", "_law_k"] []
  F_require_kind : Fun K "require_kind" "require_kind" s_require_kind A.f_require_kind A.d_require_kind
  m_require_kind : mg "require_kind" = some (.ref A.f_require_kind)
  k_require_kind : PySem.W.keepIn K (.ref A.f_require_kind) = true
  b_require_kind : Binds K A.d_require_kind ["value"] []
  F_is_int : Fun K "is_int" "is_int" s_is_int A.f_is_int A.d_is_int
  m_is_int : mg "is_int" = some (.ref A.f_is_int)
  k_is_int : PySem.W.keepIn K (.ref A.f_is_int) = true
  b_is_int : Binds K A.d_is_int ["value"] []
  F_is_whole : Fun K "is_whole" "is_whole" s_is_whole A.f_is_whole A.d_is_whole
  m_is_whole : mg "is_whole" = some (.ref A.f_is_whole)
  k_is_whole : PySem.W.keepIn K (.ref A.f_is_whole) = true
  b_is_whole : Binds K A.d_is_whole ["value", "low", "high"] []
  F_require_height : Fun K "require_height" "require_height" s_require_height A.f_require_height A.d_require_height
  m_require_height : mg "require_height" = some (.ref A.f_require_height)
  k_require_height : PySem.W.keepIn K (.ref A.f_require_height) = true
  b_require_height : Binds K A.d_require_height ["value"] []
  F_require_tree : Fun K "require_tree" "require_tree" s_require_tree A.f_require_tree A.d_require_tree
  m_require_tree : mg "require_tree" = some (.ref A.f_require_tree)
  k_require_tree : PySem.W.keepIn K (.ref A.f_require_tree) = true
  b_require_tree : Binds K A.d_require_tree ["kind", "height"] []
  F_require_depth : Fun K "require_depth" "require_depth" s_require_depth A.f_require_depth A.d_require_depth
  m_require_depth : mg "require_depth" = some (.ref A.f_require_depth)
  k_require_depth : PySem.W.keepIn K (.ref A.f_require_depth) = true
  b_require_depth : Binds K A.d_require_depth ["height", "value"] []
  F_plain_sums : Fun K "plain_sums" "plain_sums" s_plain_sums A.f_plain_sums A.d_plain_sums
  m_plain_sums : mg "plain_sums" = some (.ref A.f_plain_sums)
  k_plain_sums : PySem.W.keepIn K (.ref A.f_plain_sums) = true
  b_plain_sums : Binds K A.d_plain_sums ["kind", "height", "depth"] []
  F_cut_levels : Fun K "cut_levels" "cut_levels" s_cut_levels A.f_cut_levels A.d_cut_levels
  m_cut_levels : mg "cut_levels" = some (.ref A.f_cut_levels)
  k_cut_levels : PySem.W.keepIn K (.ref A.f_cut_levels) = true
  b_cut_levels : Binds K A.d_cut_levels ["kind", "height"] []
  F_sums_of : Fun K "sums_of" "sums_of" s_sums_of A.f_sums_of A.d_sums_of
  m_sums_of : mg "sums_of" = some (.ref A.f_sums_of)
  k_sums_of : PySem.W.keepIn K (.ref A.f_sums_of) = true
  b_sums_of : Binds K A.d_sums_of ["kind", "height", "depth"] []
  F_weights : Fun K "weights" "weights" s_weights A.f_weights A.d_weights
  m_weights : mg "weights" = some (.ref A.f_weights)
  k_weights : PySem.W.keepIn K (.ref A.f_weights) = true
  b_weights : Binds K A.d_weights ["kind", "height", "depth"] []
  F__law_spin : Fun K "_law_spin" "_law_spin" s__law_spin A.f__law_spin A.d__law_spin
  m__law_spin : mg "_law_spin" = some (.ref A.f__law_spin)
  k__law_spin : PySem.W.keepIn K (.ref A.f__law_spin) = true
  b__law_spin : Binds K A.d__law_spin ["_law_reel", "_law_many"] []
  F__law_kinds : Fun K "_law_kinds" "_law_kinds" s__law_kinds A.f__law_kinds A.d__law_kinds
  m__law_kinds : mg "_law_kinds" = some (.ref A.f__law_kinds)
  k__law_kinds : PySem.W.keepIn K (.ref A.f__law_kinds) = true
  b__law_kinds : Binds K A.d__law_kinds [] []
  F_is_node : Fun K "is_node" "is_node" s_is_node A.f_is_node A.d_is_node
  m_is_node : mg "is_node" = some (.ref A.f_is_node)
  k_is_node : PySem.W.keepIn K (.ref A.f_is_node) = true
  b_is_node : Binds K A.d_is_node ["height", "value"] []
  F_require_node : Fun K "require_node" "require_node" s_require_node A.f_require_node A.d_require_node
  m_require_node : mg "require_node" = some (.ref A.f_require_node)
  k_require_node : PySem.W.keepIn K (.ref A.f_require_node) = true
  b_require_node : Binds K A.d_require_node ["height", "value"] []
  F_spot_of : Fun K "spot_of" "spot_of" s_spot_of A.f_spot_of A.d_spot_of
  m_spot_of : mg "spot_of" = some (.ref A.f_spot_of)
  k_spot_of : PySem.W.keepIn K (.ref A.f_spot_of) = true
  b_spot_of : Binds K A.d_spot_of ["kind", "height", "node"] []
  F_place_of : Fun K "place_of" "place_of" s_place_of A.f_place_of A.d_place_of
  m_place_of : mg "place_of" = some (.ref A.f_place_of)
  k_place_of : PySem.W.keepIn K (.ref A.f_place_of) = true
  b_place_of : Binds K A.d_place_of ["kind", "height", "node"] []
  F__law_right : Fun K "_law_right" "_law_right" s__law_right A.f__law_right A.d__law_right
  m__law_right : mg "_law_right" = some (.ref A.f__law_right)
  k__law_right : PySem.W.keepIn K (.ref A.f__law_right) = true
  b__law_right : Binds K A.d__law_right ["_law_reel", "_law_kind", "_law_height"] []
  F_law : Fun K "law" "law" s_law A.f_law A.d_law
  m_law : mg "law" = some (.ref A.f_law)
  k_law : PySem.W.keepIn K (.ref A.f_law) = true
  b_law : Binds K A.d_law ["_law_script"] []
  c_MOST_HEIGHT : mg "MOST_HEIGHT" = some (.int 100 A.k_MOST_HEIGHT)
  c_CUT_KINDS : mg "CUT_KINDS" = some (.ref A.a_CUT_KINDS)
  t_CUT_KINDS : StrTup K A.a_CUT_KINDS [z_lesser, z_greater, z_powers]
  c_KINDS : mg "KINDS" = some (.ref A.a_KINDS)
  t_KINDS : StrTup K A.a_KINDS [z_levels, z_inorder, z_preorder, z_postorder, z_lesser, z_greater, z_powers]
  xq_InvalidKind : PySem.W.excIn K (A.cl 4) [.type "ValueError", .type "Exception", .type "BaseException", .type "object"] "ValueError.__new__" = true
  xm_InvalidKind : mg "InvalidKind" = some (.ref (A.cl 4))
  xk_InvalidKind : PySem.W.keepIn K (.ref (A.cl 4)) = true
  xs_InvalidKind : PySem.W.subIn K (.ref (A.cl 4)) (.type "BaseException") = some true
  xt_InvalidKind : PySem.W.typeIn K (.ref (A.cl 4)) = some (.type "type")
  xq_InvalidHeight : PySem.W.excIn K (A.cl 5) [.type "ValueError", .type "Exception", .type "BaseException", .type "object"] "ValueError.__new__" = true
  xm_InvalidHeight : mg "InvalidHeight" = some (.ref (A.cl 5))
  xk_InvalidHeight : PySem.W.keepIn K (.ref (A.cl 5)) = true
  xs_InvalidHeight : PySem.W.subIn K (.ref (A.cl 5)) (.type "BaseException") = some true
  xt_InvalidHeight : PySem.W.typeIn K (.ref (A.cl 5)) = some (.type "type")
  xq_InvalidNode : PySem.W.excIn K (A.cl 6) [.type "ValueError", .type "Exception", .type "BaseException", .type "object"] "ValueError.__new__" = true
  xm_InvalidNode : mg "InvalidNode" = some (.ref (A.cl 6))
  xk_InvalidNode : PySem.W.keepIn K (.ref (A.cl 6)) = true
  xs_InvalidNode : PySem.W.subIn K (.ref (A.cl 6)) (.type "BaseException") = some true
  xt_InvalidNode : PySem.W.typeIn K (.ref (A.cl 6)) = some (.type "type")
  xq_InvalidDepth : PySem.W.excIn K (A.cl 7) [.type "ValueError", .type "Exception", .type "BaseException", .type "object"] "ValueError.__new__" = true
  xm_InvalidDepth : mg "InvalidDepth" = some (.ref (A.cl 7))
  xk_InvalidDepth : PySem.W.keepIn K (.ref (A.cl 7)) = true
  xs_InvalidDepth : PySem.W.subIn K (.ref (A.cl 7)) (.type "BaseException") = some true
  xt_InvalidDepth : PySem.W.typeIn K (.ref (A.cl 7)) = some (.type "type")
  n_bool : mg "bool" = none
  n_enumerate : mg "enumerate" = none
  n_int : mg "int" = none
  n_isinstance : mg "isinstance" = none
  n_len : mg "len" = none
  n_list : mg "list" = none
  n_max : mg "max" = none
  n_min : mg "min" = none
  n_range : mg "range" = none
  n_repr : mg "repr" = none
  n_str : mg "str" = none
  n_sum : mg "sum" = none
  n_tuple : mg "tuple" = none
section
variable {P : Program} {w : World} {K : PySem.W.Frag} {mg : Str → Option Value} {base : Heap} {A : Ad}
abbrev N__law_wound : List Str := ["_law_script", "_law_k", "_law_cell"]
theorem sc__law_wound : FnScope N__law_wound ["_law_script", "_law_k"] (defScope s__law_wound) := ⟨rfl, rfl, rfl, by decide +kernel, rfl, by decide +kernel, by decide +kernel⟩
theorem ok__law_wound (T : Txt K mg A) : FnG P w K mg base (L2.CX P w) 1 A.f__law_wound A.d__law_wound ["_law_script", "_law_k"] (spD (ct K A) [] 2 m__law_wound) :=
  fnD (io := []) T.F__law_wound sc__law_wound (by decide) (by decide) fun cdv Ar outer s H E => ioE fun F O hr hG => (pssd_cons (psd_set sc__law_wound.nd rfl (by first | exact Or.inl rfl | exact Or.inr rfl) pd_int)
  (pssd_cons (psd_if (ptd_cmp op_lt od_cmp (pd_var (pv 1)) (pd_lenV call_len rfl T.n_len (pv 0)) rfl) (pssd_one (psd_set sc__law_wound.nd rfl (by first | exact Or.inl rfl | exact Or.inr rfl) (pd_ixV (pv 0) (pd_var (pv 1))))) pssd_nil)
  (pssd_one (psd_ret (pd_lst (pad_cons (pd_callB (call_max2 rfl) cd_max2 rfl T.n_max boot_max (pad_cons pd_int (pad_cons (pd_bin op_sub od_sub (pd_var (pv 2)) (pd_bin op_powW od_pow pd_int pd_int)) pad_nil))) (pad_cons (pd_bin op_addA od_add (pd_bin op_addA od_add (pd_bin op_mulA od_mul (pd_bin op_mod od_mod (pd_callTy call_int1 cd_int rfl T.n_int boot_int (pad_cons (pd_var (pv 2)) pad_nil)) (pd_bin op_addA od_add (pd_bin op_powW od_pow pd_int pd_int) pd_int)) pd_int) (pd_bin op_mulA od_mul pd_int (pd_var (pv 1)))) pd_int) (pad_cons pd_int pad_nil))))))))
abbrev N_require_kind : List Str := ["value"]
theorem sc_require_kind : FnScope N_require_kind ["value"] (defScope s_require_kind) := ⟨rfl, rfl, rfl, by decide +kernel, rfl, by decide +kernel, by decide +kernel⟩
theorem ok_require_kind (T : Txt K mg A) : FnG P w K mg base (L2.CX P w) 1 A.f_require_kind A.d_require_kind ["value"] (spD (ct K A) [] 1 m_require_kind) :=
  fnD (io := []) T.F_require_kind sc_require_kind (by decide) (by decide) fun cdv Ar outer s H E => ioE fun F O hr hG => (pssd_one (psd_if (PW.pt (pwd_or (ptd_not (ptd_val (pd_callB call_isi cd_isi rfl T.n_isinstance boot_isinstance (pad_cons (pd_var (pv 0)) (pad_cons (pd_tyb (k := 2) rfl T.n_str boot_str rfl) pad_nil))))) (pwd_or1 (ptd_cmp (op_notInA (u65 hr)) od_notIn (pd_var (pv 0)) (pd_globT rfl T.c_KINDS T.t_KINDS) rfl)))) (pssd_one (psd_raiseX (c := 4) rfl (by exact takes_of rfl rfl rfl rfl) T.xq_InvalidKind T.xm_InvalidKind T.xk_InvalidKind T.xs_InvalidKind T.xt_InvalidKind rfl)) pssd_nil))
abbrev N_is_int : List Str := ["value"]
theorem sc_is_int : FnScope N_is_int ["value"] (defScope s_is_int) := ⟨rfl, rfl, rfl, by decide +kernel, rfl, by decide +kernel, by decide +kernel⟩
theorem ok_is_int (T : Txt K mg A) : FnG P w K mg base (L2.CX P w) 1 A.f_is_int A.d_is_int ["value"] (spD (ct K A) [] 1 m_is_int) :=
  fnD (io := []) T.F_is_int sc_is_int (by decide) (by decide) fun cdv Ar outer s H E => ioE fun F O hr hG => (pssd_one (psd_ret (pd_and (pd_callB call_isi cd_isi rfl T.n_isinstance boot_isinstance (pad_cons (pd_var (pv 0)) (pad_cons (pd_tyb (k := 0) rfl T.n_int boot_int rfl) pad_nil))) (pd_one (pd_not (pd_callB call_isi cd_isi rfl T.n_isinstance boot_isinstance (pad_cons (pd_var (pv 0)) (pad_cons (pd_tyb (k := 1) rfl T.n_bool boot_bool rfl) pad_nil))))))))
abbrev N_is_whole : List Str := ["value", "low", "high"]
theorem sc_is_whole : FnScope N_is_whole ["value", "low", "high"] (defScope s_is_whole) := ⟨rfl, rfl, rfl, by decide +kernel, rfl, by decide +kernel, by decide +kernel⟩
theorem ok_is_whole (T : Txt K mg A) : FnG P w K mg base (L2.CX P w) 2 A.f_is_whole A.d_is_whole ["value", "low", "high"] (spD (ct K A) [] 3 m_is_whole) :=
  fnD (io := []) T.F_is_whole sc_is_whole (by decide) (by decide) fun cdv Ar outer s H E => ioE fun F O hr hG => (pssd_one (psd_ret (pd_and (pd_call (ok_is_int T) (by exact takes_of rfl rfl rfl rfl) hG (hr.mono (by omega)) rfl T.m_is_int T.k_is_int T.b_is_int (pjd_val (pd_var (pv 0)) pjd_nil) (cn_val cn_nil)) (pd_one (pd_chain op_le od_cmp op_le od_cmp (pd_var (pv 1)) (pd_var (pv 0)) (pd_var (pv 2)))))))
abbrev N_require_height : List Str := ["value"]
theorem sc_require_height : FnScope N_require_height ["value"] (defScope s_require_height) := ⟨rfl, rfl, rfl, by decide +kernel, rfl, by decide +kernel, by decide +kernel⟩
theorem ok_require_height (T : Txt K mg A) : FnG P w K mg base (L2.CX P w) 3 A.f_require_height A.d_require_height ["value"] (spD (ct K A) [] 1 m_require_height) :=
  fnD (io := []) T.F_require_height sc_require_height (by decide) (by decide) fun cdv Ar outer s H E => ioE fun F O hr hG => (pssd_one (psd_if (ptd_not (ptd_val (pd_call (ok_is_whole T) (by exact takes_of rfl rfl rfl rfl) hG (hr.mono (by omega)) rfl T.m_is_whole T.k_is_whole T.b_is_whole (pjd_val (pd_var (pv 0)) (pjd_val pd_int (pjd_val (pd_globI rfl T.c_MOST_HEIGHT) pjd_nil))) (cn_val (cn_val (cn_val cn_nil)))))) (pssd_one (psd_raiseX (c := 5) rfl (by exact takes_of rfl rfl rfl rfl) T.xq_InvalidHeight T.xm_InvalidHeight T.xk_InvalidHeight T.xs_InvalidHeight T.xt_InvalidHeight rfl)) pssd_nil))
abbrev N_require_tree : List Str := ["kind", "height"]
theorem sc_require_tree : FnScope N_require_tree ["kind", "height"] (defScope s_require_tree) := ⟨rfl, rfl, rfl, by decide +kernel, rfl, by decide +kernel, by decide +kernel⟩
theorem ok_require_tree (T : Txt K mg A) : FnG P w K mg base (L2.CX P w) 4 A.f_require_tree A.d_require_tree ["kind", "height"] (spD (ct K A) [] 2 m_require_tree) :=
  fnD (io := []) T.F_require_tree sc_require_tree (by decide) (by decide) fun cdv Ar outer s H E => ioE fun F O hr hG => (pssd_cons (psd_expr (pd_call (ok_require_kind T) (by exact takes_of rfl rfl rfl rfl) hG (hr.mono (by omega)) rfl T.m_require_kind T.k_require_kind T.b_require_kind (pjd_val (pd_var (pv 0)) pjd_nil) (cn_val cn_nil)))
  (pssd_one (psd_expr (pd_call (ok_require_height T) (by exact takes_of rfl rfl rfl rfl) hG (hr.mono (by omega)) rfl T.m_require_height T.k_require_height T.b_require_height (pjd_val (pd_var (pv 1)) pjd_nil) (cn_val cn_nil)))))
abbrev N_require_depth : List Str := ["height", "value"]
theorem sc_require_depth : FnScope N_require_depth ["height", "value"] (defScope s_require_depth) := ⟨rfl, rfl, rfl, by decide +kernel, rfl, by decide +kernel, by decide +kernel⟩
theorem ok_require_depth (T : Txt K mg A) : FnG P w K mg base (L2.CX P w) 3 A.f_require_depth A.d_require_depth ["height", "value"] (spD (ct K A) [] 2 m_require_depth) :=
  fnD (io := []) T.F_require_depth sc_require_depth (by decide) (by decide) fun cdv Ar outer s H E => ioE fun F O hr hG => (pssd_one (psd_if (ptd_not (ptd_val (pd_call (ok_is_whole T) (by exact takes_of rfl rfl rfl rfl) hG (hr.mono (by omega)) rfl T.m_is_whole T.k_is_whole T.b_is_whole (pjd_val (pd_var (pv 1)) (pjd_val pd_int (pjd_val (pd_bin op_sub od_sub (pd_var (pv 0)) pd_int) pjd_nil))) (cn_val (cn_val (cn_val cn_nil)))))) (pssd_one (psd_raiseX (c := 7) rfl (by exact takes_of rfl rfl rfl rfl) T.xq_InvalidDepth T.xm_InvalidDepth T.xk_InvalidDepth T.xs_InvalidDepth T.xt_InvalidDepth rfl)) pssd_nil))
abbrev N_plain_sums : List Str := ["kind", "height", "depth", "steps", "step"]
theorem sc_plain_sums : FnScope N_plain_sums ["kind", "height", "depth"] (defScope s_plain_sums) := ⟨rfl, rfl, rfl, by decide +kernel, rfl, by decide +kernel, by decide +kernel⟩
theorem ok_plain_sums (T : Txt K mg A) : FnG P w K mg base (L2.CX P w) 1 A.f_plain_sums A.d_plain_sums ["kind", "height", "depth"] (spD (ct K A) [] 3 m_plain_sums) :=
  fnD (io := []) T.F_plain_sums sc_plain_sums (by decide) (by decide) fun cdv Ar outer s H E => ioE fun F O hr hG => (pssd_cons (psd_set sc_plain_sums.nd rfl (by first | exact Or.inl rfl | exact Or.inr rfl) (pd_listRg2 rfl rfl T.n_list rfl T.n_range pd_int (pd_bin op_addA od_add (pd_var (pv 2)) pd_int)))
  (pssd_one (psd_match (pd_var (pv 0)) (pmd_case (lit' := z_levels) (by decide +kernel) (pssd_one (psd_retT (pd_bin op_sub od_sub (pd_bin op_shlW od_shl pd_int (pd_var (pv 2))) pd_int) (pd_lc (io := []) (own := [("step", 4)]) rfl (by decide) rfl sc_plain_sums.nd (pid_seq (pd_var (pv 3))) (by show BlkOk N_plain_sums (defScope s_plain_sums) _ _; exact ⟨rfl, by decide +kernel, by decide +kernel, by decide +kernel, by decide +kernel⟩) (fun s H Ca cl fp => ioE fun F O => (pgd_name (pg_name sc_plain_sums.nd rfl (by first | exact Or.inl rfl | exact Or.inr rfl)))) (fun s H Ca cl fp => ioE fun F O => ptsd_nil) (fun s H Ca cl fp => ioE fun F O => (pd_bin op_shlW od_shl pd_int (pd_bin op_sub od_sub (pd_var (pv 2)) (pd_var (pv 4))))))))
  (pmd_case (lit' := z_inorder) (by decide +kernel) (pssd_one (psd_retT (pd_bin op_sub od_sub (pd_bin op_shlW od_shl pd_int (pd_bin op_sub od_sub (pd_bin op_sub od_sub (pd_var (pv 1)) pd_int) (pd_var (pv 2)))) pd_int) (pd_lc (io := []) (own := [("step", 4)]) rfl (by decide) rfl sc_plain_sums.nd (pid_seq (pd_var (pv 3))) (by show BlkOk N_plain_sums (defScope s_plain_sums) _ _; exact ⟨rfl, by decide +kernel, by decide +kernel, by decide +kernel, by decide +kernel⟩) (fun s H Ca cl fp => ioE fun F O => (pgd_name (pg_name sc_plain_sums.nd rfl (by first | exact Or.inl rfl | exact Or.inr rfl)))) (fun s H Ca cl fp => ioE fun F O => ptsd_nil) (fun s H Ca cl fp => ioE fun F O => (pd_bin op_shlW od_shl pd_int (pd_bin op_sub od_sub (pd_var (pv 1)) (pd_var (pv 4))))))))
  (pmd_case (lit' := z_preorder) (by decide +kernel) (pssd_one (psd_retT (pd_var (pv 2)) (pd_lc (io := []) (own := [("step", 4)]) rfl (by decide) rfl sc_plain_sums.nd (pid_seq (pd_var (pv 3))) (by show BlkOk N_plain_sums (defScope s_plain_sums) _ _; exact ⟨rfl, by decide +kernel, by decide +kernel, by decide +kernel, by decide +kernel⟩) (fun s H Ca cl fp => ioE fun F O => (pgd_name (pg_name sc_plain_sums.nd rfl (by first | exact Or.inl rfl | exact Or.inr rfl)))) (fun s H Ca cl fp => ioE fun F O => ptsd_nil) (fun s H Ca cl fp => ioE fun F O => (pd_bin op_sub od_sub (pd_bin op_shlW od_shl pd_int (pd_bin op_sub od_sub (pd_var (pv 1)) (pd_var (pv 4)))) pd_int)))))
  (pmd_any (pssd_one (psd_retT (pd_bin op_sub od_sub (pd_bin op_shlW od_shl pd_int (pd_bin op_sub od_sub (pd_var (pv 1)) (pd_var (pv 2)))) pd_int) (pd_lc (io := []) (own := [("step", 4)]) rfl (by decide) rfl sc_plain_sums.nd (pid_seq (pd_var (pv 3))) (by show BlkOk N_plain_sums (defScope s_plain_sums) _ _; exact ⟨rfl, by decide +kernel, by decide +kernel, by decide +kernel, by decide +kernel⟩) (fun s H Ca cl fp => ioE fun F O => (pgd_name (pg_name sc_plain_sums.nd rfl (by first | exact Or.inl rfl | exact Or.inr rfl)))) (fun s H Ca cl fp => ioE fun F O => ptsd_nil) (fun s H Ca cl fp => ioE fun F O => (pd_bin op_sub od_sub (pd_bin op_shlW od_shl pd_int (pd_bin op_sub od_sub (pd_var (pv 1)) (pd_var (pv 4)))) pd_int))))))))))))
abbrev N_cut_levels : List Str := ["kind", "height"]
theorem sc_cut_levels : FnScope N_cut_levels ["kind", "height"] (defScope s_cut_levels) := ⟨rfl, rfl, rfl, by decide +kernel, rfl, by decide +kernel, by decide +kernel⟩
theorem ok_cut_levels (T : Txt K mg A) : FnG P w K mg base (L2.CX P w) 1 A.f_cut_levels A.d_cut_levels ["kind", "height"] (spD (ct K A) [] 2 m_cut_levels) :=
  fnD (io := []) T.F_cut_levels sc_cut_levels (by decide) (by decide) fun cdv Ar outer s H E => ioE fun F O hr hG => (pssd_cons (psd_if (PW.pt (pwd_or (ptd_cmp (op_notInA (u65 hr)) od_notIn (pd_var (pv 0)) (pd_globT rfl T.c_CUT_KINDS T.t_CUT_KINDS) rfl) (pwd_or1 (ptd_cmp (op_eqA (u64 hr)) od_eqA (pd_var (pv 1)) pd_int rfl)))) (pssd_one (psd_ret pd_non)) pssd_nil)
  (pssd_cons (psd_if (ptd_cmp (op_eqA (u64 hr)) od_eqA (pd_var (pv 0)) (pd_str (y := z_lesser) (by decide +kernel)) rfl) (pssd_one (psd_ret (pd_bin op_fdivW od_div (pd_var (pv 1)) pd_int))) pssd_nil)
  (pssd_cons (psd_if (ptd_cmp (op_eqA (u64 hr)) od_eqA (pd_var (pv 0)) (pd_str (y := z_greater) (by decide +kernel)) rfl) (pssd_one (psd_ret (pd_bin op_fdivW od_div (pd_bin op_addA od_add (pd_var (pv 1)) pd_int) pd_int))) pssd_nil)
  (pssd_one (psd_ret (pd_bin op_sub od_sub (pd_var (pv 1)) (pd_bin op_shlW od_shl pd_int (pd_bin op_sub od_sub (pd_bits (pd_bin op_sub od_sub (pd_var (pv 1)) pd_int)) pd_int))))))))
abbrev N_sums_of : List Str := ["kind", "height", "depth", "number", "found", "levels", "left", "top", "size", "step"]
theorem sc_sums_of : FnScope N_sums_of ["kind", "height", "depth"] (defScope s_sums_of) := ⟨rfl, rfl, rfl, by decide +kernel, rfl, by decide +kernel, by decide +kernel⟩
theorem ok_sums_of (T : Txt K mg A) : FnG P w K mg base (L2.CX P w) 2 A.f_sums_of A.d_sums_of ["kind", "height", "depth"] (spD (ct K A) [] 3 m_sums_of) :=
  fnD (io := []) T.F_sums_of sc_sums_of (by decide) (by decide) fun cdv Ar outer s H E => ioE fun F O hr hG => (pssd_cons (psd_if (ptd_cmp (op_notInA (u65 hr)) od_notIn (pd_var (pv 0)) (pd_globT rfl T.c_CUT_KINDS T.t_CUT_KINDS) rfl) (pssd_one (psd_retC (ok_plain_sums T) (by exact takes_of rfl rfl rfl rfl) hG (hr.mono (by omega)) rfl T.m_plain_sums T.k_plain_sums T.b_plain_sums (pad_cons (pd_var (pv 0)) (pad_cons (pd_var (pv 1)) (pad_cons (pd_var (pv 2)) pad_nil))))) pssd_nil)
  (pssd_cons (psd_set4 pd_int (pd_lst pad_nil) (ioE fun F O => (pad_cons (pd_var (pv 1)) (pad_cons (pd_var (pv 2)) pad_nil))) rfl (pg_name sc_sums_of.nd rfl (by first | exact Or.inl rfl | exact Or.inr rfl)) (pg_name sc_sums_of.nd rfl (by first | exact Or.inl rfl | exact Or.inr rfl)) (pg_name sc_sums_of.nd rfl (by first | exact Or.inl rfl | exact Or.inr rfl)) (pg_name sc_sums_of.nd rfl (by first | exact Or.inl rfl | exact Or.inr rfl)))
  (pssd_cons (psd_while (by exact passes_of rfl) (ptd_cmp op_gt od_cmp (pd_var (pv 5)) pd_int rfl) (pssd_cons (psd_set sc_sums_of.nd rfl (by first | exact Or.inl rfl | exact Or.inr rfl) (pd_call (ok_cut_levels T) (by exact takes_of rfl rfl rfl rfl) hG (hr.mono (by omega)) rfl T.m_cut_levels T.k_cut_levels T.b_cut_levels (pjd_val (pd_var (pv 0)) (pjd_val (pd_var (pv 5)) pjd_nil)) (cn_val (cn_val cn_nil))))
  (pssd_one (psd_if (ptd_cmp op_lt od_cmp (pd_var (pv 6)) (pd_var (pv 7)) rfl) (pssd_one (psd_set sc_sums_of.nd rfl (by first | exact Or.inl rfl | exact Or.inr rfl) (pd_var (pv 7)))) (pssd_cons (psd_set sc_sums_of.nd rfl (by first | exact Or.inl rfl | exact Or.inr rfl) (pd_bin op_sub od_sub (pd_bin op_shlW od_shl pd_int (pd_bin op_sub od_sub (pd_var (pv 5)) (pd_var (pv 7)))) pd_int))
  (pssd_cons (psd_aug sc_sums_of.nd rfl (by first | exact Or.inl rfl | exact Or.inr rfl) (pd_bin op_sub od_sub (pd_bin op_shlW od_shl pd_int (pd_var (pv 7))) pd_int) iop_add od_addI)
  (pssd_cons (psd_set sc_sums_of.nd rfl (by first | exact Or.inl rfl | exact Or.inr rfl) (pd_lst (pad_star (pd_var (pv 4)) (pad_star (pd_lc (io := []) (own := [("step", 9)]) rfl (by decide) rfl sc_sums_of.nd (pid_rg2 rfl T.n_range (pad_cons pd_int (pad_cons (pd_bin op_addA od_add (pd_var (pv 7)) pd_int) pad_nil))) (by show BlkOk N_sums_of (defScope s_sums_of) _ _; exact ⟨rfl, by decide +kernel, by decide +kernel, by decide +kernel, by decide +kernel⟩) (fun s H Ca cl fp => ioE fun F O => (pgd_name (pg_name sc_sums_of.nd rfl (by first | exact Or.inl rfl | exact Or.inr rfl)))) (fun s H Ca cl fp => ioE fun F O => ptsd_nil) (fun s H Ca cl fp => ioE fun F O => (pd_bin op_shlW od_shl (pd_var (pv 8)) (pd_bin op_sub od_sub (pd_var (pv 7)) (pd_var (pv 9)))))) pad_nil))))
  (pssd_one (psd_par (io := []) rfl rfl sc_sums_of.nd rfl rfl (by decide) rfl rfl (pd_bin op_sub od_sub (pd_var (pv 5)) (pd_var (pv 7))) (ioE fun F O => (pd_bin op_sub od_sub (pd_var (pv 6)) (pd_var (pv 7)))) rfl)))))))))
  (pssd_one (psd_retT (pd_var (pv 3)) (pd_move (pv 4)))))))
abbrev N_weights : List Str := ["kind", "height", "depth"]
theorem sc_weights : FnScope N_weights ["kind", "height", "depth"] (defScope s_weights) := ⟨rfl, rfl, rfl, by decide +kernel, rfl, by decide +kernel, by decide +kernel⟩
theorem ok_weights (T : Txt K mg A) : FnG P w K mg base (L2.CX P w) 5 A.f_weights A.d_weights ["kind", "height", "depth"] (spD (ct K A) [] 3 m_weights) :=
  fnD (io := []) T.F_weights sc_weights (by decide) (by decide) fun cdv Ar outer s H E => ioE fun F O hr hG => (pssd_cons (psd_expr (pd_call (ok_require_tree T) (by exact takes_of rfl rfl rfl rfl) hG (hr.mono (by omega)) rfl T.m_require_tree T.k_require_tree T.b_require_tree (pjd_val (pd_var (pv 0)) (pjd_val (pd_var (pv 1)) pjd_nil)) (cn_val (cn_val cn_nil))))
  (pssd_cons (psd_expr (pd_call (ok_require_depth T) (by exact takes_of rfl rfl rfl rfl) hG (hr.mono (by omega)) rfl T.m_require_depth T.k_require_depth T.b_require_depth (pjd_val (pd_var (pv 1)) (pjd_val (pd_var (pv 2)) pjd_nil)) (cn_val (cn_val cn_nil))))
  (pssd_one (psd_retC (ok_sums_of T) (by exact takes_of rfl rfl rfl rfl) hG (hr.mono (by omega)) rfl T.m_sums_of T.k_sums_of T.b_sums_of (pad_cons (pd_var (pv 0)) (pad_cons (pd_var (pv 1)) (pad_cons (pd_var (pv 2)) pad_nil)))))))
abbrev N__law_spin : List Str := ["_law_reel", "_law_many", "_law_drawn", "_law_mixed"]
theorem sc__law_spin : FnScope N__law_spin ["_law_reel", "_law_many"] (defScope s__law_spin) := ⟨rfl, rfl, rfl, by decide +kernel, rfl, by decide +kernel, by decide +kernel⟩
theorem ok__law_spin (T : Txt K mg A) : FnG P w K mg base (L2.CX P w) 1 A.f__law_spin A.d__law_spin ["_law_reel", "_law_many"] (spD (ct K A) [0] 2 m__law_spin) :=
  fnD (io := [0]) T.F__law_spin sc__law_spin (by decide) (by decide) fun cdv Ar outer s H E => ioE fun F O hr hG => (pssd_cons (psd_if (ptd_cmp op_gt od_cmp (pd_ixV (pv 0) pd_int) pd_int rfl) (pssd_cons (psd_set sc__law_spin.nd rfl (by first | exact Or.inl rfl | exact Or.inr rfl) (pd_bin op_mod od_mod (pd_callTy call_int1 cd_int rfl T.n_int boot_int (pad_cons (pd_ixV (pv 0) pd_int) pad_nil)) (pd_var (pv 1))))
  (pssd_cons (psd_setIx (pd_bin op_fdivW od_div (pd_ixV (pv 0) pd_int) (pd_var (pv 1))) (pv 0) pd_int (ps_asg (pd_bin op_fdivW od_div (pd_ixV (pv 0) pd_int) (pd_var (pv 1))) (pg_sub (pv 0) pd_int set_list)))
  (pssd_one (psd_ret (pd_move (pv 2)))))) pssd_nil)
  (pssd_cons (psd_setIx (pd_bin op_addA od_add (pd_ixV (pv 0) pd_int) pd_int) (pv 0) pd_int (ps_asg (pd_bin op_addA od_add (pd_ixV (pv 0) pd_int) pd_int) (pg_sub (pv 0) pd_int set_list)))
  (pssd_cons (psd_set sc__law_spin.nd rfl (by first | exact Or.inl rfl | exact Or.inr rfl) (pd_bin op_mod od_mod (pd_callTy call_int1 cd_int rfl T.n_int boot_int (pad_cons (pd_bin op_powW od_pow (pd_bin op_addA od_add (pd_ixV (pv 0) pd_int) (pd_bin op_mulA od_mul pd_int (pd_ixV (pv 0) pd_int))) pd_int) pad_nil)) (pd_bin op_addA od_add (pd_bin op_powW od_pow pd_int pd_int) pd_int)))
  (pssd_cons (psd_set sc__law_spin.nd rfl (by first | exact Or.inl rfl | exact Or.inr rfl) (pd_bin op_mod od_mod (pd_callTy call_int1 cd_int rfl T.n_int boot_int (pad_cons (pd_bin op_powW od_pow (pd_bin op_addA od_add (pd_var (pv 3)) (pd_bin op_mulA od_mul pd_int (pd_ixV (pv 0) pd_int))) pd_int) pad_nil)) (pd_bin op_addA od_add (pd_bin op_powW od_pow pd_int pd_int) pd_int)))
  (pssd_one (psd_ret (pd_bin op_mod od_mod (pd_callTy call_int1 cd_int rfl T.n_int boot_int (pad_cons (pd_bin op_fdivW od_div (pd_var (pv 3)) pd_int) pad_nil)) (pd_var (pv 1)))))))))
abbrev N__law_kinds : List Str := []
theorem sc__law_kinds : FnScope N__law_kinds [] (defScope s__law_kinds) := ⟨rfl, rfl, rfl, by decide +kernel, rfl, by decide +kernel, by decide +kernel⟩
theorem ok__law_kinds (T : Txt K mg A) : FnG P w K mg base (L2.CX P w) 1 A.f__law_kinds A.d__law_kinds [] (spD (ct K A) [] 0 m__law_kinds) :=
  fnD (io := []) T.F__law_kinds sc__law_kinds (by decide) (by decide) fun cdv Ar outer s H E => ioE fun F O hr hG => (pssd_one (psd_ret (pd_lst (pad_cons (pd_str (y := z_levels) (by decide +kernel)) (pad_cons (pd_str (y := z_inorder) (by decide +kernel)) (pad_cons (pd_str (y := z_preorder) (by decide +kernel)) (pad_cons (pd_str (y := z_postorder) (by decide +kernel)) (pad_cons (pd_str (y := z_lesser) (by decide +kernel)) (pad_cons (pd_str (y := z_greater) (by decide +kernel)) (pad_cons (pd_str (y := z_powers) (by decide +kernel)) pad_nil))))))))))
abbrev N_is_node : List Str := ["height", "value"]
theorem sc_is_node : FnScope N_is_node ["height", "value"] (defScope s_is_node) := ⟨rfl, rfl, rfl, by decide +kernel, rfl, by decide +kernel, by decide +kernel⟩
theorem ok_is_node (T : Txt K mg A) : FnG P w K mg base (L2.CX P w) 3 A.f_is_node A.d_is_node ["height", "value"] (spD (ct K A) [] 2 m_is_node) :=
  fnD (io := []) T.F_is_node sc_is_node (by decide) (by decide) fun cdv Ar outer s H E => ioE fun F O hr hG => (pssd_cons (psd_if (PW.pt (pwd_or (ptd_not (ptd_val (pd_callB call_isi cd_isi rfl T.n_isinstance boot_isinstance (pad_cons (pd_var (pv 1)) (pad_cons (pd_tyb (k := 3) rfl T.n_tuple boot_tuple rfl) pad_nil))))) (pwd_or (ptd_cmp (op_neA (u64 hr)) od_neA (pd_lenV call_len rfl T.n_len (pv 1)) pd_int rfl) (pwd_or1 (ptd_not (ptd_val (pd_call (ok_is_whole T) (by exact takes_of rfl rfl rfl rfl) hG (hr.mono (by omega)) rfl T.m_is_whole T.k_is_whole T.b_is_whole (pjd_val (pd_ixV (pv 1) pd_int) (pjd_val pd_int (pjd_val (pd_bin op_sub od_sub (pd_var (pv 0)) pd_int) pjd_nil))) (cn_val (cn_val (cn_val cn_nil)))))))))) (pssd_one (psd_ret pd_bl)) pssd_nil)
  (pssd_one (psd_ret (pd_call (ok_is_whole T) (by exact takes_of rfl rfl rfl rfl) hG (hr.mono (by omega)) rfl T.m_is_whole T.k_is_whole T.b_is_whole (pjd_val (pd_ixV (pv 1) pd_int) (pjd_val pd_int (pjd_val (pd_bin op_sub od_sub (pd_bin op_shlW od_shl pd_int (pd_ixV (pv 1) pd_int)) pd_int) pjd_nil))) (cn_val (cn_val (cn_val cn_nil)))))))
abbrev N_require_node : List Str := ["height", "value"]
theorem sc_require_node : FnScope N_require_node ["height", "value"] (defScope s_require_node) := ⟨rfl, rfl, rfl, by decide +kernel, rfl, by decide +kernel, by decide +kernel⟩
theorem ok_require_node (T : Txt K mg A) : FnG P w K mg base (L2.CX P w) 4 A.f_require_node A.d_require_node ["height", "value"] (spD (ct K A) [] 2 m_require_node) :=
  fnD (io := []) T.F_require_node sc_require_node (by decide) (by decide) fun cdv Ar outer s H E => ioE fun F O hr hG => (pssd_one (psd_if (ptd_not (ptd_val (pd_call (ok_is_node T) (by exact takes_of rfl rfl rfl rfl) hG (hr.mono (by omega)) rfl T.m_is_node T.k_is_node T.b_is_node (pjd_val (pd_var (pv 0)) (pjd_val (pd_var (pv 1)) pjd_nil)) (cn_val (cn_val cn_nil))))) (pssd_one (psd_raiseX (c := 6) rfl (by exact takes_of rfl rfl rfl rfl) T.xq_InvalidNode T.xm_InvalidNode T.xk_InvalidNode T.xs_InvalidNode T.xt_InvalidNode rfl)) pssd_nil))
abbrev N_spot_of : List Str := ["kind", "height", "node", "depth", "number", "found", "sums", "step", "weight"]
theorem sc_spot_of : FnScope N_spot_of ["kind", "height", "node"] (defScope s_spot_of) := ⟨rfl, rfl, rfl, by decide +kernel, rfl, by decide +kernel, by decide +kernel⟩
theorem ok_spot_of (T : Txt K mg A) : FnG P w K mg base (L2.CX P w) 3 A.f_spot_of A.d_spot_of ["kind", "height", "node"] (spD (ct K A) [] 3 m_spot_of) :=
  fnD (io := []) T.F_spot_of sc_spot_of (by decide) (by decide) fun cdv Ar outer s H E => ioE fun F O hr hG => (pssd_cons (psd_asg (pd_var (pv 2)) (pgd_tup rfl (pgds_cons (pgd_name (pg_name sc_spot_of.nd rfl (by first | exact Or.inl rfl | exact Or.inr rfl))) (pgds_cons (pgd_name (pg_name sc_spot_of.nd rfl (by first | exact Or.inl rfl | exact Or.inr rfl))) pgds_nil)) (gtCons_len (gtCons_len gtNil_len))))
  (pssd_cons (psd_asg (pd_call (ok_sums_of T) (by exact takes_of rfl rfl rfl rfl) hG (hr.mono (by omega)) rfl T.m_sums_of T.k_sums_of T.b_sums_of (pjd_val (pd_var (pv 0)) (pjd_val (pd_var (pv 1)) (pjd_val (pd_var (pv 3)) pjd_nil))) (cn_val (cn_val (cn_val cn_nil)))) (pgd_tup rfl (pgds_cons (pgd_name (pg_name sc_spot_of.nd rfl (by first | exact Or.inl rfl | exact Or.inr rfl))) (pgds_cons (pgd_name (pg_name sc_spot_of.nd rfl (by first | exact Or.inl rfl | exact Or.inr rfl))) pgds_nil)) (gtCons_len (gtCons_len gtNil_len))))
  (pssd_cons (psd_for (by exact passes_of rfl) rfl (pid_enum rfl T.n_enumerate (pd_var (pv 6))) (pgd_tup rfl (pgds_cons (pgd_name (pg_name sc_spot_of.nd rfl (by first | exact Or.inl rfl | exact Or.inr rfl))) (pgds_cons (pgd_name (pg_name sc_spot_of.nd rfl (by first | exact Or.inl rfl | exact Or.inr rfl))) pgds_nil)) (gtCons_len (gtCons_len gtNil_len))) (pssd_one (psd_if (ptd_cmp (op_eqA (u64 hr)) od_eqA (pd_bin op_and od_and (pd_bin op_shr od_shr (pd_var (pv 4)) (pd_bin op_sub od_sub (pd_bin op_sub od_sub (pd_var (pv 3)) pd_int) (pd_var (pv 7)))) pd_int) pd_int rfl) (pssd_one (psd_aug sc_spot_of.nd rfl (by first | exact Or.inl rfl | exact Or.inr rfl) (pd_var (pv 8)) iop_add od_addI)) pssd_nil)))
  (pssd_one (psd_ret (pd_move (pv 5)))))))
abbrev N_place_of : List Str := ["kind", "height", "node"]
theorem sc_place_of : FnScope N_place_of ["kind", "height", "node"] (defScope s_place_of) := ⟨rfl, rfl, rfl, by decide +kernel, rfl, by decide +kernel, by decide +kernel⟩
theorem ok_place_of (T : Txt K mg A) : FnG P w K mg base (L2.CX P w) 5 A.f_place_of A.d_place_of ["kind", "height", "node"] (spD (ct K A) [] 3 m_place_of) :=
  fnD (io := []) T.F_place_of sc_place_of (by decide) (by decide) fun cdv Ar outer s H E => ioE fun F O hr hG => (pssd_cons (psd_expr (pd_call (ok_require_tree T) (by exact takes_of rfl rfl rfl rfl) hG (hr.mono (by omega)) rfl T.m_require_tree T.k_require_tree T.b_require_tree (pjd_val (pd_var (pv 0)) (pjd_val (pd_var (pv 1)) pjd_nil)) (cn_val (cn_val cn_nil))))
  (pssd_cons (psd_expr (pd_call (ok_require_node T) (by exact takes_of rfl rfl rfl rfl) hG (hr.mono (by omega)) rfl T.m_require_node T.k_require_node T.b_require_node (pjd_val (pd_var (pv 1)) (pjd_val (pd_var (pv 2)) pjd_nil)) (cn_val (cn_val cn_nil))))
  (pssd_one (psd_ret (pd_call (ok_spot_of T) (by exact takes_of rfl rfl rfl rfl) hG (hr.mono (by omega)) rfl T.m_spot_of T.k_spot_of T.b_spot_of (pjd_val (pd_var (pv 0)) (pjd_val (pd_var (pv 1)) (pjd_val (pd_var (pv 2)) pjd_nil))) (cn_val (cn_val (cn_val cn_nil))))))))
abbrev N__law_right : List Str := ["_law_reel", "_law_kind", "_law_height", "_law_depth", "_law_number", "_law_told", "_law_due", "_law_step", "_law_rest", "_law_weight", "_law_turn", "_law_spot", "_law_there"]
theorem sc__law_right : FnScope N__law_right ["_law_reel", "_law_kind", "_law_height"] (defScope s__law_right) := ⟨rfl, rfl, rfl, by decide +kernel, rfl, by decide +kernel, by decide +kernel⟩
theorem ok__law_right (T : Txt K mg A) : FnG P w K mg base (L2.CX P w) 6 A.f__law_right A.d__law_right ["_law_reel", "_law_kind", "_law_height"] (spD (ct K A) [0] 3 m__law_right) :=
  fnD (io := [0]) T.F__law_right sc__law_right (by decide) (by decide) fun cdv Ar outer s H E => ioE fun F O hr hG => (pssd_cons (psd_set sc__law_right.nd rfl (by first | exact Or.inl rfl | exact Or.inr rfl) (pd_ix (pd_lst (pad_cons (pd_call (ok__law_spin T) (by exact takes_of rfl rfl rfl rfl) hG (hr.mono (by omega)) rfl T.m__law_spin T.k__law_spin T.b__law_spin (pjd_io (pv 0) (pjd_val (pd_var (pv 2)) pjd_nil)) (cn_io (cn_val cn_nil))) (pad_cons (pd_bin op_sub od_sub (pd_var (pv 2)) pd_int) pad_nil))) (pd_call (ok__law_spin T) (by exact takes_of rfl rfl rfl rfl) hG (hr.mono (by omega)) rfl T.m__law_spin T.k__law_spin T.b__law_spin (pjd_io (pv 0) (pjd_val pd_int pjd_nil)) (cn_io (cn_val cn_nil)))))
  (pssd_cons (psd_unp (ok_weights T) (by exact takes_of rfl rfl rfl rfl) hG (hr.mono (by omega)) rfl T.m_weights T.k_weights T.b_weights (pad_cons (pd_var (pv 1)) (pad_cons (pd_var (pv 2)) (pad_cons (pd_var (pv 3)) pad_nil))) rfl (pg_name sc__law_right.nd rfl (by first | exact Or.inl rfl | exact Or.inr rfl)) (pg_name sc__law_right.nd rfl (by first | exact Or.inl rfl | exact Or.inr rfl)))
  (pssd_cons (psd_set sc__law_right.nd rfl (by first | exact Or.inl rfl | exact Or.inr rfl) (pd_lst pad_nil))
  (pssd_cons (psd_for (by exact passes_of rfl) rfl (pid_rg1 rfl T.n_range (pad_cons (pd_var (pv 3)) pad_nil)) (pgd_name (pg_name sc__law_right.nd rfl (by first | exact Or.inl rfl | exact Or.inr rfl))) (pssd_one (psd_append (pd_bin op_sub od_sub (pd_call (ok_place_of T) (by exact takes_of rfl rfl rfl rfl) hG (hr.mono (by omega)) rfl T.m_place_of T.k_place_of T.b_place_of (pjd_val (pd_var (pv 1)) (pjd_val (pd_var (pv 2)) (pjd_val (pd_tup (pad_cons (pd_var (pv 3)) (pad_cons (pd_bin op_shlW od_shl pd_int (pd_bin op_sub od_sub (pd_bin op_sub od_sub (pd_var (pv 3)) pd_int) (pd_var (pv 7)))) pad_nil))) pjd_nil))) (cn_val (cn_val (cn_val cn_nil)))) (pd_call (ok_place_of T) (by exact takes_of rfl rfl rfl rfl) hG (hr.mono (by omega)) rfl T.m_place_of T.k_place_of T.b_place_of (pjd_val (pd_var (pv 1)) (pjd_val (pd_var (pv 2)) (pjd_val (pd_tup (pad_cons (pd_var (pv 3)) (pad_cons pd_int pad_nil))) pjd_nil))) (cn_val (cn_val (cn_val cn_nil))))) (pv 6) (pe_bm PySem.F.plainAttrs_list PySem.F.slot_list_append PySem.F.type_list_append mt_append (pv 6) (pa_cons (pd_bin op_sub od_sub (pd_call (ok_place_of T) (by exact takes_of rfl rfl rfl rfl) hG (hr.mono (by omega)) rfl T.m_place_of T.k_place_of T.b_place_of (pjd_val (pd_var (pv 1)) (pjd_val (pd_var (pv 2)) (pjd_val (pd_tup (pad_cons (pd_var (pv 3)) (pad_cons (pd_bin op_shlW od_shl pd_int (pd_bin op_sub od_sub (pd_bin op_sub od_sub (pd_var (pv 3)) pd_int) (pd_var (pv 7)))) pad_nil))) pjd_nil))) (cn_val (cn_val (cn_val cn_nil)))) (pd_call (ok_place_of T) (by exact takes_of rfl rfl rfl rfl) hG (hr.mono (by omega)) rfl T.m_place_of T.k_place_of T.b_place_of (pjd_val (pd_var (pv 1)) (pjd_val (pd_var (pv 2)) (pjd_val (pd_tup (pad_cons (pd_var (pv 3)) (pad_cons pd_int pad_nil))) pjd_nil))) (cn_val (cn_val (cn_val cn_nil))))) pa_nil)))))
  (pssd_cons (psd_thaw (is := [5, 6]) (by decide) (ioE fun F O => (psd_if (ptd_cmp (op_neA (u64 hr)) od_neA (pd_callB (call_reprD hG (u66 hr)) cd_repr rfl T.n_repr boot_repr (pad_cons (pd_tup (pad_cons (pd_var (pv 4)) (pad_cons (pd_var (pv 5)) pad_nil))) pad_nil)) (pd_callB (call_reprD hG (u66 hr)) cd_repr rfl T.n_repr boot_repr (pad_cons (pd_tup (pad_cons (pd_call (ok_place_of T) (by exact takes_of rfl rfl rfl rfl) hG (hr.mono (by omega)) rfl T.m_place_of T.k_place_of T.b_place_of (pjd_val (pd_var (pv 1)) (pjd_val (pd_var (pv 2)) (pjd_val (pd_tup (pad_cons (pd_var (pv 3)) (pad_cons pd_int pad_nil))) pjd_nil))) (cn_val (cn_val (cn_val cn_nil)))) (pad_cons (pd_var (pv 6)) pad_nil))) pad_nil)) rfl) (pssd_one (psd_ret pd_bl)) pssd_nil)))
  (pssd_cons (psd_set sc__law_right.nd rfl (by first | exact Or.inl rfl | exact Or.inr rfl) pd_int)
  (pssd_cons (psd_thaw (is := [6]) (by decide) (ioE fun F O => (psd_for (by exact passes_of rfl) rfl (pid_seq (pd_rev (pd_var (pv 6)))) (pgd_name (pg_name sc__law_right.nd rfl (by first | exact Or.inl rfl | exact Or.inr rfl))) (pssd_cons (psd_if (ptd_cmp op_le od_cmp (pd_var (pv 9)) (pd_var (pv 8)) rfl) (pssd_one (psd_ret pd_bl)) pssd_nil)
  (pssd_one (psd_set sc__law_right.nd rfl (by first | exact Or.inl rfl | exact Or.inr rfl) (pd_bin op_addA od_add (pd_var (pv 8)) (pd_var (pv 9)))))))))
  (pssd_cons (psd_thaw (is := [5]) (by decide) (ioE fun F O => (psd_for (by exact passes_of rfl) rfl (pid_rg1 rfl T.n_range (pad_cons pd_int pad_nil)) (pgd_name (pg_name sc__law_right.nd rfl (by first | exact Or.inl rfl | exact Or.inr rfl))) (pssd_cons (psd_set sc__law_right.nd rfl (by first | exact Or.inl rfl | exact Or.inr rfl) (pd_call (ok__law_spin T) (by exact takes_of rfl rfl rfl rfl) hG (hr.mono (by omega)) rfl T.m__law_spin T.k__law_spin T.b__law_spin (pjd_io (pv 0) (pjd_val (pd_bin op_shlW od_shl pd_int (pd_var (pv 3))) pjd_nil)) (cn_io (cn_val cn_nil))))
  (pssd_cons (psd_set sc__law_right.nd rfl (by first | exact Or.inl rfl | exact Or.inr rfl) (pd_bin op_addA od_add (pd_var (pv 4)) (pd_callB (cr_sum rfl) cd_sum rfl T.n_sum boot_sum (pad_cons (pd_lc (io := [5, 0]) (own := [("_law_step", 7), ("_law_weight", 9)]) rfl (by decide) rfl sc__law_right.nd (pid_enum rfl T.n_enumerate (pd_var (pv 5))) (by show BlkOk N__law_right (defScope s__law_right) _ _; exact ⟨rfl, by decide +kernel, by decide +kernel, by decide +kernel, by decide +kernel⟩) (fun s H Ca cl fp => ioE fun F O => (pgd_tup rfl (pgds_cons (pgd_name (pg_name sc__law_right.nd rfl (by first | exact Or.inl rfl | exact Or.inr rfl))) (pgds_cons (pgd_name (pg_name sc__law_right.nd rfl (by first | exact Or.inl rfl | exact Or.inr rfl))) pgds_nil)) (gtCons_len (gtCons_len gtNil_len)))) (fun s H Ca cl fp => ioE fun F O => ptsd_nil) (fun s H Ca cl fp => ioE fun F O => (pd_bin op_mulA od_mul (pd_var (pv 9)) (pd_bin op_and od_and (pd_bin op_shr od_shr (pd_var (pv 11)) (pd_bin op_sub od_sub (pd_bin op_sub od_sub (pd_var (pv 3)) pd_int) (pd_var (pv 7)))) pd_int)))) pad_nil))))
  (pssd_one (psd_if (ptd_cmp (op_neA (u64 hr)) od_neA (pd_call (ok_place_of T) (by exact takes_of rfl rfl rfl rfl) hG (hr.mono (by omega)) rfl T.m_place_of T.k_place_of T.b_place_of (pjd_val (pd_var (pv 1)) (pjd_val (pd_var (pv 2)) (pjd_val (pd_tup (pad_cons (pd_var (pv 3)) (pad_cons (pd_var (pv 11)) pad_nil))) pjd_nil))) (cn_val (cn_val (cn_val cn_nil)))) (pd_var (pv 12)) rfl) (pssd_one (psd_ret pd_bl)) pssd_nil)))))))
  (pssd_cons (psd_append pd_non (pv 5) (pe_bm PySem.F.plainAttrs_list PySem.F.slot_list_append PySem.F.type_list_append mt_append (pv 5) (pa_cons pd_non pa_nil)))
  (pssd_one (psd_ret (pd_cmp (op_eqA (u64 hr)) od_eqA (pd_call (ok_weights T) (by exact takes_of rfl rfl rfl rfl) hG (hr.mono (by omega)) rfl T.m_weights T.k_weights T.b_weights (pjd_val (pd_var (pv 1)) (pjd_val (pd_var (pv 2)) (pjd_val (pd_var (pv 3)) pjd_nil))) (cn_val (cn_val (cn_val cn_nil)))) (pd_tup (pad_cons (pd_var (pv 4)) (pad_cons (pd_var (pv 6)) pad_nil))) rfl))))))))))))
abbrev N_law : List Str := ["_law_script", "_law_k", "_law_reel", "_law_height", "_law_told", "_law_kind"]
theorem sc_law : FnScope N_law ["_law_script"] (defScope s_law) := ⟨rfl, rfl, rfl, by decide +kernel, rfl, by decide +kernel, by decide +kernel⟩
theorem ok_law (T : Txt K mg A) : FnG P w K mg base (L2.CX P w) 7 A.f_law A.d_law ["_law_script"] (spD (ct K A) [] 1 m_law) :=
  fnD (io := []) T.F_law sc_law (by decide) (by decide) fun cdv Ar outer s H E => ioE fun F O hr hG => (pssd_cons (psd_for (by exact passes_of rfl) rfl (pid_rg1 rfl T.n_range (pad_cons (pd_callB (call_max2 rfl) cd_max2 rfl T.n_max boot_max (pad_cons pd_int (pad_cons (pd_callB (call_min2 rfl) cd_min2 rfl T.n_min boot_min (pad_cons pd_int (pad_cons (pd_lenV call_len rfl T.n_len (pv 0)) pad_nil))) pad_nil))) pad_nil)) (pgd_name (pg_name sc_law.nd rfl (by first | exact Or.inl rfl | exact Or.inr rfl))) (pssd_cons (psd_set sc_law.nd rfl (by first | exact Or.inl rfl | exact Or.inr rfl) (pd_call (ok__law_wound T) (by exact takes_of rfl rfl rfl rfl) hG (hr.mono (by omega)) rfl T.m__law_wound T.k__law_wound T.b__law_wound (pjd_val (pd_var (pv 0)) (pjd_val (pd_var (pv 1)) pjd_nil)) (cn_val (cn_val cn_nil))))
  (pssd_cons (psd_set sc_law.nd rfl (by first | exact Or.inl rfl | exact Or.inr rfl) (pd_bin op_addA od_add pd_int (pd_call (ok__law_spin T) (by exact takes_of rfl rfl rfl rfl) hG (hr.mono (by omega)) rfl T.m__law_spin T.k__law_spin T.b__law_spin (pjd_io (pv 2) (pjd_val (pd_ix (pd_lst (pad_cons pd_int (pad_cons pd_int pad_nil))) (pd_call (ok__law_spin T) (by exact takes_of rfl rfl rfl rfl) hG (hr.mono (by omega)) rfl T.m__law_spin T.k__law_spin T.b__law_spin (pjd_io (pv 2) (pjd_val pd_int pjd_nil)) (cn_io (cn_val cn_nil)))) pjd_nil)) (cn_io (cn_val cn_nil)))))
  (pssd_one (psd_if (ptd_cmp (op_neA (u64 hr)) od_neA (pd_lc (io := []) (own := [("_law_kind", 5)]) rfl (by decide) rfl sc_law.nd (pid_seq (pd_call0 (ok__law_kinds T) hG (hr.mono (by omega)) rfl T.m__law_kinds T.k__law_kinds T.b__law_kinds)) (by show BlkOk N_law (defScope s_law) _ _; exact ⟨rfl, by decide +kernel, by decide +kernel, by decide +kernel, by decide +kernel⟩) (fun s H Ca cl fp => ioE fun F O => (pgd_name (pg_name sc_law.nd rfl (by first | exact Or.inl rfl | exact Or.inr rfl)))) (fun s H Ca cl fp => ioE fun F O => (ptsd_one (ptd_not (ptd_val (pd_call (ok__law_right T) takes0 hG (hr.mono (by omega)) rfl T.m__law_right T.k__law_right T.b__law_right (pjd_io (pv 2) (pjd_val (pd_var (pv 5)) (pjd_val (pd_var (pv 3)) pjd_nil))) (cn_io (cn_val (cn_val cn_nil)))))))) (fun s H Ca cl fp => ioE fun F O => (pd_var (pv 5)))) (pd_lst pad_nil) rfl) (pssd_one (psd_ret pd_bl)) pssd_nil)))))
  (pssd_cons (psd_set sc_law.nd rfl (by first | exact Or.inl rfl | exact Or.inr rfl) (pd_lst (pad_cons (pd_call (ok_weights T) (by exact takes_of rfl rfl rfl rfl) hG (hr.mono (by omega)) rfl T.m_weights T.k_weights T.b_weights (pjd_val (pd_str (y := z_lesser) (by decide +kernel)) (pjd_val pd_int (pjd_val pd_int pjd_nil))) (cn_val (cn_val (cn_val cn_nil)))) (pad_cons (pd_call (ok_weights T) (by exact takes_of rfl rfl rfl rfl) hG (hr.mono (by omega)) rfl T.m_weights T.k_weights T.b_weights (pjd_val (pd_str (y := z_preorder) (by decide +kernel)) (pjd_val pd_int (pjd_val pd_int pjd_nil))) (cn_val (cn_val (cn_val cn_nil)))) (pad_cons (pd_call (ok_weights T) (by exact takes_of rfl rfl rfl rfl) hG (hr.mono (by omega)) rfl T.m_weights T.k_weights T.b_weights (pjd_val (pd_str (y := z_postorder) (by decide +kernel)) (pjd_val pd_int (pjd_val pd_int pjd_nil))) (cn_val (cn_val (cn_val cn_nil)))) (pad_cons (pd_call (ok_weights T) (by exact takes_of rfl rfl rfl rfl) hG (hr.mono (by omega)) rfl T.m_weights T.k_weights T.b_weights (pjd_val (pd_str (y := z_inorder) (by decide +kernel)) (pjd_val pd_int (pjd_val pd_int pjd_nil))) (cn_val (cn_val (cn_val cn_nil)))) pad_nil))))))
  (pssd_one (psd_ret (pd_cmp (op_eqA (u64 hr)) od_eqA (pd_var (pv 4)) (pd_lst (pad_cons (pd_tup (pad_cons pd_int (pad_cons (pd_lst (pad_cons pd_int (pad_cons pd_int (pad_cons pd_int pad_nil)))) pad_nil))) (pad_cons (pd_tup (pad_cons pd_int (pad_cons (pd_lst (pad_cons pd_int (pad_cons pd_int pad_nil))) pad_nil))) (pad_cons (pd_tup (pad_cons pd_int (pad_cons (pd_lst pad_nil) pad_nil))) (pad_cons (pd_tup (pad_cons pd_int (pad_cons (pd_lst (pad_cons pd_int (pad_cons pd_int (pad_cons pd_int pad_nil)))) pad_nil))) pad_nil))))) rfl)))))
end
theorem all_mk {l : PySem.W.OpenLaw} {w : World} {K : PySem.W.Frag} {h : Heap} {mg : Str → Option Value} {fa : Addr} (X : K.In h) (G : h.Ns mainGlobals mg) (hfa : mg "law" = some (.ref fa))
    {f0 : Addr} {od0 an0 : Option Addr} {sl0 : Array (Option Value)} {oc0 kV0 dc0 pm0 cd0 ct0 : Value} {f1 : Addr} {od1 an1 : Option Addr} {sl1 : Array (Option Value)} {oc1 kV1 dc1 pm1 cd1 ct1 : Value} {f2 : Addr} {od2 an2 : Option Addr} {sl2 : Array (Option Value)} {oc2 kV2 dc2 pm2 cd2 ct2 : Value} {f3 : Addr} {od3 an3 : Option Addr} {sl3 : Array (Option Value)} {oc3 kV3 dc3 pm3 cd3 ct3 : Value} {f4 : Addr} {od4 an4 : Option Addr} {sl4 : Array (Option Value)} {oc4 kV4 dc4 pm4 cd4 ct4 : Value} {f5 : Addr} {od5 an5 : Option Addr} {sl5 : Array (Option Value)} {oc5 kV5 dc5 pm5 cd5 ct5 : Value} {f6 : Addr} {od6 an6 : Option Addr} {sl6 : Array (Option Value)} {oc6 kV6 dc6 pm6 cd6 ct6 : Value} {f7 : Addr} {od7 an7 : Option Addr} {sl7 : Array (Option Value)} {oc7 kV7 dc7 pm7 cd7 ct7 : Value} {f8 : Addr} {od8 an8 : Option Addr} {sl8 : Array (Option Value)} {oc8 kV8 dc8 pm8 cd8 ct8 : Value} {f9 : Addr} {od9 an9 : Option Addr} {sl9 : Array (Option Value)} {oc9 kV9 dc9 pm9 cd9 ct9 : Value} {f10 : Addr} {od10 an10 : Option Addr} {sl10 : Array (Option Value)} {oc10 kV10 dc10 pm10 cd10 ct10 : Value} {f11 : Addr} {od11 an11 : Option Addr} {sl11 : Array (Option Value)} {oc11 kV11 dc11 pm11 cd11 ct11 : Value} {f12 : Addr} {od12 an12 : Option Addr} {sl12 : Array (Option Value)} {oc12 kV12 dc12 pm12 cd12 ct12 : Value} {f13 : Addr} {od13 an13 : Option Addr} {sl13 : Array (Option Value)} {oc13 kV13 dc13 pm13 cd13 ct13 : Value} {f14 : Addr} {od14 an14 : Option Addr} {sl14 : Array (Option Value)} {oc14 kV14 dc14 pm14 cd14 ct14 : Value} {f15 : Addr} {od15 an15 : Option Addr} {sl15 : Array (Option Value)} {oc15 kV15 dc15 pm15 cd15 ct15 : Value} {f16 : Addr} {od16 an16 : Option Addr} {sl16 : Array (Option Value)} {oc16 kV16 dc16 pm16 cd16 ct16 : Value} {f17 : Addr} {od17 an17 : Option Addr} {sl17 : Array (Option Value)} {oc17 kV17 dc17 pm17 cd17 ct17 : Value} {f18 : Addr} {od18 an18 : Option Addr} {sl18 : Array (Option Value)} {oc18 kV18 dc18 pm18 cd18 ct18 : Value} {tk_MOST_HEIGHT : Tok} {ad_CUT_KINDS : Addr} {sd_CUT_KINDS : Option Addr} {sn_CUT_KINDS : Nat} {ss_CUT_KINDS : Array (Option Value)} {st_CUT_KINDS_0 : Tok} {st_CUT_KINDS_1 : Tok} {st_CUT_KINDS_2 : Tok} {ad_KINDS : Addr} {sd_KINDS : Option Addr} {sn_KINDS : Nat} {ss_KINDS : Array (Option Value)} {st_KINDS_0 : Tok} {st_KINDS_1 : Tok} {st_KINDS_2 : Tok} {st_KINDS_3 : Tok} {st_KINDS_4 : Tok} {st_KINDS_5 : Tok} {st_KINDS_6 : Tok} {C_InvalidKind : Addr} {C_InvalidHeight : Addr} {C_InvalidNode : Addr} {C_InvalidDepth : Addr}
    (a0 : PySem.W.nsIn K mainGlobals "_law_wound" = some (some (.ref f0)))
    (l0 : K.lookup f0 = some ⟨oc0, od0, .func (PySem.W.fnOf "_law_wound" "_law_wound" (defArgs s__law_wound) (defBody s__law_wound) (defScope s__law_wound) .none kV0 dc0 pm0 an0 cd0 ct0), sl0⟩)
    (c0 : PySem.W.codeIn K cd0 "_law_wound" = true)
    (k0 : PySem.W.keepIn K (.ref f0) = true)
    (a1 : PySem.W.nsIn K mainGlobals "require_kind" = some (some (.ref f1)))
    (l1 : K.lookup f1 = some ⟨oc1, od1, .func (PySem.W.fnOf "require_kind" "require_kind" (defArgs s_require_kind) (defBody s_require_kind) (defScope s_require_kind) .none kV1 dc1 pm1 an1 cd1 ct1), sl1⟩)
    (c1 : PySem.W.codeIn K cd1 "require_kind" = true)
    (k1 : PySem.W.keepIn K (.ref f1) = true)
    (a2 : PySem.W.nsIn K mainGlobals "is_int" = some (some (.ref f2)))
    (l2 : K.lookup f2 = some ⟨oc2, od2, .func (PySem.W.fnOf "is_int" "is_int" (defArgs s_is_int) (defBody s_is_int) (defScope s_is_int) .none kV2 dc2 pm2 an2 cd2 ct2), sl2⟩)
    (c2 : PySem.W.codeIn K cd2 "is_int" = true)
    (k2 : PySem.W.keepIn K (.ref f2) = true)
    (a3 : PySem.W.nsIn K mainGlobals "is_whole" = some (some (.ref f3)))
    (l3 : K.lookup f3 = some ⟨oc3, od3, .func (PySem.W.fnOf "is_whole" "is_whole" (defArgs s_is_whole) (defBody s_is_whole) (defScope s_is_whole) .none kV3 dc3 pm3 an3 cd3 ct3), sl3⟩)
    (c3 : PySem.W.codeIn K cd3 "is_whole" = true)
    (k3 : PySem.W.keepIn K (.ref f3) = true)
    (a4 : PySem.W.nsIn K mainGlobals "require_height" = some (some (.ref f4)))
    (l4 : K.lookup f4 = some ⟨oc4, od4, .func (PySem.W.fnOf "require_height" "require_height" (defArgs s_require_height) (defBody s_require_height) (defScope s_require_height) .none kV4 dc4 pm4 an4 cd4 ct4), sl4⟩)
    (c4 : PySem.W.codeIn K cd4 "require_height" = true)
    (k4 : PySem.W.keepIn K (.ref f4) = true)
    (a5 : PySem.W.nsIn K mainGlobals "require_tree" = some (some (.ref f5)))
    (l5 : K.lookup f5 = some ⟨oc5, od5, .func (PySem.W.fnOf "require_tree" "require_tree" (defArgs s_require_tree) (defBody s_require_tree) (defScope s_require_tree) .none kV5 dc5 pm5 an5 cd5 ct5), sl5⟩)
    (c5 : PySem.W.codeIn K cd5 "require_tree" = true)
    (k5 : PySem.W.keepIn K (.ref f5) = true)
    (a6 : PySem.W.nsIn K mainGlobals "require_depth" = some (some (.ref f6)))
    (l6 : K.lookup f6 = some ⟨oc6, od6, .func (PySem.W.fnOf "require_depth" "require_depth" (defArgs s_require_depth) (defBody s_require_depth) (defScope s_require_depth) .none kV6 dc6 pm6 an6 cd6 ct6), sl6⟩)
    (c6 : PySem.W.codeIn K cd6 "require_depth" = true)
    (k6 : PySem.W.keepIn K (.ref f6) = true)
    (a7 : PySem.W.nsIn K mainGlobals "plain_sums" = some (some (.ref f7)))
    (l7 : K.lookup f7 = some ⟨oc7, od7, .func (PySem.W.fnOf "plain_sums" "plain_sums" (defArgs s_plain_sums) (defBody s_plain_sums) (defScope s_plain_sums) .none kV7 dc7 pm7 an7 cd7 ct7), sl7⟩)
    (c7 : PySem.W.codeIn K cd7 "plain_sums" = true)
    (k7 : PySem.W.keepIn K (.ref f7) = true)
    (a8 : PySem.W.nsIn K mainGlobals "cut_levels" = some (some (.ref f8)))
    (l8 : K.lookup f8 = some ⟨oc8, od8, .func (PySem.W.fnOf "cut_levels" "cut_levels" (defArgs s_cut_levels) (defBody s_cut_levels) (defScope s_cut_levels) .none kV8 dc8 pm8 an8 cd8 ct8), sl8⟩)
    (c8 : PySem.W.codeIn K cd8 "cut_levels" = true)
    (k8 : PySem.W.keepIn K (.ref f8) = true)
    (a9 : PySem.W.nsIn K mainGlobals "sums_of" = some (some (.ref f9)))
    (l9 : K.lookup f9 = some ⟨oc9, od9, .func (PySem.W.fnOf "sums_of" "sums_of" (defArgs s_sums_of) (defBody s_sums_of) (defScope s_sums_of) .none kV9 dc9 pm9 an9 cd9 ct9), sl9⟩)
    (c9 : PySem.W.codeIn K cd9 "sums_of" = true)
    (k9 : PySem.W.keepIn K (.ref f9) = true)
    (a10 : PySem.W.nsIn K mainGlobals "weights" = some (some (.ref f10)))
    (l10 : K.lookup f10 = some ⟨oc10, od10, .func (PySem.W.fnOf "weights" "weights" (defArgs s_weights) (defBody s_weights) (defScope s_weights) .none kV10 dc10 pm10 an10 cd10 ct10), sl10⟩)
    (c10 : PySem.W.codeIn K cd10 "weights" = true)
    (k10 : PySem.W.keepIn K (.ref f10) = true)
    (a11 : PySem.W.nsIn K mainGlobals "_law_spin" = some (some (.ref f11)))
    (l11 : K.lookup f11 = some ⟨oc11, od11, .func (PySem.W.fnOf "_law_spin" "_law_spin" (defArgs s__law_spin) (defBody s__law_spin) (defScope s__law_spin) .none kV11 dc11 pm11 an11 cd11 ct11), sl11⟩)
    (c11 : PySem.W.codeIn K cd11 "_law_spin" = true)
    (k11 : PySem.W.keepIn K (.ref f11) = true)
    (a12 : PySem.W.nsIn K mainGlobals "_law_kinds" = some (some (.ref f12)))
    (l12 : K.lookup f12 = some ⟨oc12, od12, .func (PySem.W.fnOf "_law_kinds" "_law_kinds" (defArgs s__law_kinds) (defBody s__law_kinds) (defScope s__law_kinds) .none kV12 dc12 pm12 an12 cd12 ct12), sl12⟩)
    (c12 : PySem.W.codeIn K cd12 "_law_kinds" = true)
    (k12 : PySem.W.keepIn K (.ref f12) = true)
    (a13 : PySem.W.nsIn K mainGlobals "is_node" = some (some (.ref f13)))
    (l13 : K.lookup f13 = some ⟨oc13, od13, .func (PySem.W.fnOf "is_node" "is_node" (defArgs s_is_node) (defBody s_is_node) (defScope s_is_node) .none kV13 dc13 pm13 an13 cd13 ct13), sl13⟩)
    (c13 : PySem.W.codeIn K cd13 "is_node" = true)
    (k13 : PySem.W.keepIn K (.ref f13) = true)
    (a14 : PySem.W.nsIn K mainGlobals "require_node" = some (some (.ref f14)))
    (l14 : K.lookup f14 = some ⟨oc14, od14, .func (PySem.W.fnOf "require_node" "require_node" (defArgs s_require_node) (defBody s_require_node) (defScope s_require_node) .none kV14 dc14 pm14 an14 cd14 ct14), sl14⟩)
    (c14 : PySem.W.codeIn K cd14 "require_node" = true)
    (k14 : PySem.W.keepIn K (.ref f14) = true)
    (a15 : PySem.W.nsIn K mainGlobals "spot_of" = some (some (.ref f15)))
    (l15 : K.lookup f15 = some ⟨oc15, od15, .func (PySem.W.fnOf "spot_of" "spot_of" (defArgs s_spot_of) (defBody s_spot_of) (defScope s_spot_of) .none kV15 dc15 pm15 an15 cd15 ct15), sl15⟩)
    (c15 : PySem.W.codeIn K cd15 "spot_of" = true)
    (k15 : PySem.W.keepIn K (.ref f15) = true)
    (a16 : PySem.W.nsIn K mainGlobals "place_of" = some (some (.ref f16)))
    (l16 : K.lookup f16 = some ⟨oc16, od16, .func (PySem.W.fnOf "place_of" "place_of" (defArgs s_place_of) (defBody s_place_of) (defScope s_place_of) .none kV16 dc16 pm16 an16 cd16 ct16), sl16⟩)
    (c16 : PySem.W.codeIn K cd16 "place_of" = true)
    (k16 : PySem.W.keepIn K (.ref f16) = true)
    (a17 : PySem.W.nsIn K mainGlobals "_law_right" = some (some (.ref f17)))
    (l17 : K.lookup f17 = some ⟨oc17, od17, .func (PySem.W.fnOf "_law_right" "_law_right" (defArgs s__law_right) (defBody s__law_right) (defScope s__law_right) .none kV17 dc17 pm17 an17 cd17 ct17), sl17⟩)
    (c17 : PySem.W.codeIn K cd17 "_law_right" = true)
    (k17 : PySem.W.keepIn K (.ref f17) = true)
    (a18 : PySem.W.nsIn K mainGlobals "law" = some (some (.ref f18)))
    (l18 : K.lookup f18 = some ⟨oc18, od18, .func (PySem.W.fnOf "law" "law" (defArgs s_law) (defBody s_law) (defScope s_law) .none kV18 dc18 pm18 an18 cd18 ct18), sl18⟩)
    (c18 : PySem.W.codeIn K cd18 "law" = true)
    (k18 : PySem.W.keepIn K (.ref f18) = true)
    (i_MOST_HEIGHT : PySem.W.nsIn K mainGlobals "MOST_HEIGHT" = some (some (.int 100 tk_MOST_HEIGHT)))
    (j_CUT_KINDS : PySem.W.nsIn K mainGlobals "CUT_KINDS" = some (some (.ref ad_CUT_KINDS)))
    (q_CUT_KINDS : K.lookup ad_CUT_KINDS = some ⟨.type "tuple", sd_CUT_KINDS, .seq #[.str "lesser" st_CUT_KINDS_0, .str "greater" st_CUT_KINDS_1, .str "powers" st_CUT_KINDS_2] sn_CUT_KINDS, ss_CUT_KINDS⟩)
    (j_KINDS : PySem.W.nsIn K mainGlobals "KINDS" = some (some (.ref ad_KINDS)))
    (q_KINDS : K.lookup ad_KINDS = some ⟨.type "tuple", sd_KINDS, .seq #[.str "levels" st_KINDS_0, .str "inorder" st_KINDS_1, .str "preorder" st_KINDS_2, .str "postorder" st_KINDS_3, .str "lesser" st_KINDS_4, .str "greater" st_KINDS_5, .str "powers" st_KINDS_6] sn_KINDS, ss_KINDS⟩)
    (xa_InvalidKind : PySem.W.nsIn K mainGlobals "InvalidKind" = some (some (.ref C_InvalidKind)))
    (xq_InvalidKind : PySem.W.excIn K C_InvalidKind [.type "ValueError", .type "Exception", .type "BaseException", .type "object"] "ValueError.__new__" = true)
    (xk_InvalidKind : PySem.W.keepIn K (.ref C_InvalidKind) = true)
    (xs_InvalidKind : PySem.W.subIn K (.ref C_InvalidKind) (.type "BaseException") = some true)
    (xt_InvalidKind : PySem.W.typeIn K (.ref C_InvalidKind) = some (.type "type"))
    (xa_InvalidHeight : PySem.W.nsIn K mainGlobals "InvalidHeight" = some (some (.ref C_InvalidHeight)))
    (xq_InvalidHeight : PySem.W.excIn K C_InvalidHeight [.type "ValueError", .type "Exception", .type "BaseException", .type "object"] "ValueError.__new__" = true)
    (xk_InvalidHeight : PySem.W.keepIn K (.ref C_InvalidHeight) = true)
    (xs_InvalidHeight : PySem.W.subIn K (.ref C_InvalidHeight) (.type "BaseException") = some true)
    (xt_InvalidHeight : PySem.W.typeIn K (.ref C_InvalidHeight) = some (.type "type"))
    (xa_InvalidNode : PySem.W.nsIn K mainGlobals "InvalidNode" = some (some (.ref C_InvalidNode)))
    (xq_InvalidNode : PySem.W.excIn K C_InvalidNode [.type "ValueError", .type "Exception", .type "BaseException", .type "object"] "ValueError.__new__" = true)
    (xk_InvalidNode : PySem.W.keepIn K (.ref C_InvalidNode) = true)
    (xs_InvalidNode : PySem.W.subIn K (.ref C_InvalidNode) (.type "BaseException") = some true)
    (xt_InvalidNode : PySem.W.typeIn K (.ref C_InvalidNode) = some (.type "type"))
    (xa_InvalidDepth : PySem.W.nsIn K mainGlobals "InvalidDepth" = some (some (.ref C_InvalidDepth)))
    (xq_InvalidDepth : PySem.W.excIn K C_InvalidDepth [.type "ValueError", .type "Exception", .type "BaseException", .type "object"] "ValueError.__new__" = true)
    (xk_InvalidDepth : PySem.W.keepIn K (.ref C_InvalidDepth) = true)
    (xs_InvalidDepth : PySem.W.subIn K (.ref C_InvalidDepth) (.type "BaseException") = some true)
    (xt_InvalidDepth : PySem.W.typeIn K (.ref C_InvalidDepth) = some (.type "type"))
    (n_bool : PySem.W.nsIn K mainGlobals "bool" = some none)
    (n_enumerate : PySem.W.nsIn K mainGlobals "enumerate" = some none)
    (n_int : PySem.W.nsIn K mainGlobals "int" = some none)
    (n_isinstance : PySem.W.nsIn K mainGlobals "isinstance" = some none)
    (n_len : PySem.W.nsIn K mainGlobals "len" = some none)
    (n_list : PySem.W.nsIn K mainGlobals "list" = some none)
    (n_max : PySem.W.nsIn K mainGlobals "max" = some none)
    (n_min : PySem.W.nsIn K mainGlobals "min" = some none)
    (n_range : PySem.W.nsIn K mainGlobals "range" = some none)
    (n_repr : PySem.W.nsIn K mainGlobals "repr" = some none)
    (n_str : PySem.W.nsIn K mainGlobals "str" = some none)
    (n_sum : PySem.W.nsIn K mainGlobals "sum" = some none)
    (n_tuple : PySem.W.nsIn K mainGlobals "tuple" = some none) :
    ∃ (C : Ct) (fd : FuncData), C.K = K ∧ (∀ (s : Shared) (v : Value), BindsTo s fd ⟨[v], []⟩ [("_law_script", v)]) ∧ ∀ base : Heap, K.In base → base.Ns mainGlobals mg → FnG l.prog w K mg base (L2.CX l.prog w) 7 fa fd ["_law_script"] (spD C [] 1 m_law) := by
  have e := hfa.symm.trans (PySem.W.mg_of X G a18)
  cases e
  have F0 := fun_mk (st := s__law_wound) l0 c0 k0
  have B0 := F0.binds (ps := ["_law_script", "_law_k"]) fun _ _ _ _ _ _ us hl => match us, hl with | [_, _], _ => rfl
  have F1 := fun_mk (st := s_require_kind) l1 c1 k1
  have B1 := F1.binds (ps := ["value"]) fun _ _ _ _ _ _ us hl => match us, hl with | [_], _ => rfl
  have F2 := fun_mk (st := s_is_int) l2 c2 k2
  have B2 := F2.binds (ps := ["value"]) fun _ _ _ _ _ _ us hl => match us, hl with | [_], _ => rfl
  have F3 := fun_mk (st := s_is_whole) l3 c3 k3
  have B3 := F3.binds (ps := ["value", "low", "high"]) fun _ _ _ _ _ _ us hl => match us, hl with | [_, _, _], _ => rfl
  have F4 := fun_mk (st := s_require_height) l4 c4 k4
  have B4 := F4.binds (ps := ["value"]) fun _ _ _ _ _ _ us hl => match us, hl with | [_], _ => rfl
  have F5 := fun_mk (st := s_require_tree) l5 c5 k5
  have B5 := F5.binds (ps := ["kind", "height"]) fun _ _ _ _ _ _ us hl => match us, hl with | [_, _], _ => rfl
  have F6 := fun_mk (st := s_require_depth) l6 c6 k6
  have B6 := F6.binds (ps := ["height", "value"]) fun _ _ _ _ _ _ us hl => match us, hl with | [_, _], _ => rfl
  have F7 := fun_mk (st := s_plain_sums) l7 c7 k7
  have B7 := F7.binds (ps := ["kind", "height", "depth"]) fun _ _ _ _ _ _ us hl => match us, hl with | [_, _, _], _ => rfl
  have F8 := fun_mk (st := s_cut_levels) l8 c8 k8
  have B8 := F8.binds (ps := ["kind", "height"]) fun _ _ _ _ _ _ us hl => match us, hl with | [_, _], _ => rfl
  have F9 := fun_mk (st := s_sums_of) l9 c9 k9
  have B9 := F9.binds (ps := ["kind", "height", "depth"]) fun _ _ _ _ _ _ us hl => match us, hl with | [_, _, _], _ => rfl
  have F10 := fun_mk (st := s_weights) l10 c10 k10
  have B10 := F10.binds (ps := ["kind", "height", "depth"]) fun _ _ _ _ _ _ us hl => match us, hl with | [_, _, _], _ => rfl
  have F11 := fun_mk (st := s__law_spin) l11 c11 k11
  have B11 := F11.binds (ps := ["_law_reel", "_law_many"]) fun _ _ _ _ _ _ us hl => match us, hl with | [_, _], _ => rfl
  have F12 := fun_mk (st := s__law_kinds) l12 c12 k12
  have B12 := F12.binds (ps := []) fun _ _ _ _ _ _ us hl => match us, hl with | [], _ => rfl
  have F13 := fun_mk (st := s_is_node) l13 c13 k13
  have B13 := F13.binds (ps := ["height", "value"]) fun _ _ _ _ _ _ us hl => match us, hl with | [_, _], _ => rfl
  have F14 := fun_mk (st := s_require_node) l14 c14 k14
  have B14 := F14.binds (ps := ["height", "value"]) fun _ _ _ _ _ _ us hl => match us, hl with | [_, _], _ => rfl
  have F15 := fun_mk (st := s_spot_of) l15 c15 k15
  have B15 := F15.binds (ps := ["kind", "height", "node"]) fun _ _ _ _ _ _ us hl => match us, hl with | [_, _, _], _ => rfl
  have F16 := fun_mk (st := s_place_of) l16 c16 k16
  have B16 := F16.binds (ps := ["kind", "height", "node"]) fun _ _ _ _ _ _ us hl => match us, hl with | [_, _, _], _ => rfl
  have F17 := fun_mk (st := s__law_right) l17 c17 k17
  have B17 := F17.binds (ps := ["_law_reel", "_law_kind", "_law_height"]) fun _ _ _ _ _ _ us hl => match us, hl with | [_, _, _], _ => rfl
  have F18 := fun_mk (st := s_law) l18 c18 k18
  have B18 := F18.binds (ps := ["_law_script"]) fun _ _ _ _ _ _ us hl => match us, hl with | [_], _ => rfl
  have T : Txt K mg { cl := fun n => match n with | 4 => C_InvalidKind | 5 => C_InvalidHeight | 6 => C_InvalidNode | 7 => C_InvalidDepth | _ => fa, f__law_wound := f0, d__law_wound := _, f_require_kind := f1, d_require_kind := _, f_is_int := f2, d_is_int := _, f_is_whole := f3, d_is_whole := _, f_require_height := f4, d_require_height := _, f_require_tree := f5, d_require_tree := _, f_require_depth := f6, d_require_depth := _, f_plain_sums := f7, d_plain_sums := _, f_cut_levels := f8, d_cut_levels := _, f_sums_of := f9, d_sums_of := _, f_weights := f10, d_weights := _, f__law_spin := f11, d__law_spin := _, f__law_kinds := f12, d__law_kinds := _, f_is_node := f13, d_is_node := _, f_require_node := f14, d_require_node := _, f_spot_of := f15, d_spot_of := _, f_place_of := f16, d_place_of := _, f__law_right := f17, d__law_right := _, f_law := fa, d_law := _, a_CUT_KINDS := ad_CUT_KINDS, a_KINDS := ad_KINDS, k_MOST_HEIGHT := tk_MOST_HEIGHT } :=
    { F__law_wound := F0, m__law_wound := PySem.W.mg_of X G a0, k__law_wound := k0, b__law_wound := B0, F_require_kind := F1, m_require_kind := PySem.W.mg_of X G a1, k_require_kind := k1, b_require_kind := B1, F_is_int := F2, m_is_int := PySem.W.mg_of X G a2, k_is_int := k2, b_is_int := B2, F_is_whole := F3, m_is_whole := PySem.W.mg_of X G a3, k_is_whole := k3, b_is_whole := B3, F_require_height := F4, m_require_height := PySem.W.mg_of X G a4, k_require_height := k4, b_require_height := B4, F_require_tree := F5, m_require_tree := PySem.W.mg_of X G a5, k_require_tree := k5, b_require_tree := B5, F_require_depth := F6, m_require_depth := PySem.W.mg_of X G a6, k_require_depth := k6, b_require_depth := B6, F_plain_sums := F7, m_plain_sums := PySem.W.mg_of X G a7, k_plain_sums := k7, b_plain_sums := B7, F_cut_levels := F8, m_cut_levels := PySem.W.mg_of X G a8, k_cut_levels := k8, b_cut_levels := B8, F_sums_of := F9, m_sums_of := PySem.W.mg_of X G a9, k_sums_of := k9, b_sums_of := B9, F_weights := F10, m_weights := PySem.W.mg_of X G a10, k_weights := k10, b_weights := B10, F__law_spin := F11, m__law_spin := PySem.W.mg_of X G a11, k__law_spin := k11, b__law_spin := B11, F__law_kinds := F12, m__law_kinds := PySem.W.mg_of X G a12, k__law_kinds := k12, b__law_kinds := B12, F_is_node := F13, m_is_node := PySem.W.mg_of X G a13, k_is_node := k13, b_is_node := B13, F_require_node := F14, m_require_node := PySem.W.mg_of X G a14, k_require_node := k14, b_require_node := B14, F_spot_of := F15, m_spot_of := PySem.W.mg_of X G a15, k_spot_of := k15, b_spot_of := B15, F_place_of := F16, m_place_of := PySem.W.mg_of X G a16, k_place_of := k16, b_place_of := B16, F__law_right := F17, m__law_right := PySem.W.mg_of X G a17, k__law_right := k17, b__law_right := B17, F_law := F18, m_law := PySem.W.mg_of X G a18, k_law := k18, b_law := B18, c_MOST_HEIGHT := PySem.W.mg_of X G i_MOST_HEIGHT, c_CUT_KINDS := PySem.W.mg_of X G j_CUT_KINDS, t_CUT_KINDS := ⟨_, _, _, q_CUT_KINDS, rfl, rfl, by rw [sizeLine_eq]; show 3 ≤ 16777216; decide, (.cons ⟨st_CUT_KINDS_0, by first | rfl | exact congrArg (fun z => Value.str z _) (by decide +kernel)⟩ (.cons ⟨st_CUT_KINDS_1, by first | rfl | exact congrArg (fun z => Value.str z _) (by decide +kernel)⟩ (.cons ⟨st_CUT_KINDS_2, by first | rfl | exact congrArg (fun z => Value.str z _) (by decide +kernel)⟩ .nil)))⟩, c_KINDS := PySem.W.mg_of X G j_KINDS, t_KINDS := ⟨_, _, _, q_KINDS, rfl, rfl, by rw [sizeLine_eq]; show 7 ≤ 16777216; decide, (.cons ⟨st_KINDS_0, by first | rfl | exact congrArg (fun z => Value.str z _) (by decide +kernel)⟩ (.cons ⟨st_KINDS_1, by first | rfl | exact congrArg (fun z => Value.str z _) (by decide +kernel)⟩ (.cons ⟨st_KINDS_2, by first | rfl | exact congrArg (fun z => Value.str z _) (by decide +kernel)⟩ (.cons ⟨st_KINDS_3, by first | rfl | exact congrArg (fun z => Value.str z _) (by decide +kernel)⟩ (.cons ⟨st_KINDS_4, by first | rfl | exact congrArg (fun z => Value.str z _) (by decide +kernel)⟩ (.cons ⟨st_KINDS_5, by first | rfl | exact congrArg (fun z => Value.str z _) (by decide +kernel)⟩ (.cons ⟨st_KINDS_6, by first | rfl | exact congrArg (fun z => Value.str z _) (by decide +kernel)⟩ .nil)))))))⟩, xq_InvalidKind := xq_InvalidKind, xm_InvalidKind := PySem.W.mg_of X G xa_InvalidKind, xk_InvalidKind := xk_InvalidKind, xs_InvalidKind := xs_InvalidKind, xt_InvalidKind := xt_InvalidKind, xq_InvalidHeight := xq_InvalidHeight, xm_InvalidHeight := PySem.W.mg_of X G xa_InvalidHeight, xk_InvalidHeight := xk_InvalidHeight, xs_InvalidHeight := xs_InvalidHeight, xt_InvalidHeight := xt_InvalidHeight, xq_InvalidNode := xq_InvalidNode, xm_InvalidNode := PySem.W.mg_of X G xa_InvalidNode, xk_InvalidNode := xk_InvalidNode, xs_InvalidNode := xs_InvalidNode, xt_InvalidNode := xt_InvalidNode, xq_InvalidDepth := xq_InvalidDepth, xm_InvalidDepth := PySem.W.mg_of X G xa_InvalidDepth, xk_InvalidDepth := xk_InvalidDepth, xs_InvalidDepth := xs_InvalidDepth, xt_InvalidDepth := xt_InvalidDepth, n_bool := PySem.W.mg_none_of X G n_bool, n_enumerate := PySem.W.mg_none_of X G n_enumerate, n_int := PySem.W.mg_none_of X G n_int, n_isinstance := PySem.W.mg_none_of X G n_isinstance, n_len := PySem.W.mg_none_of X G n_len, n_list := PySem.W.mg_none_of X G n_list, n_max := PySem.W.mg_none_of X G n_max, n_min := PySem.W.mg_none_of X G n_min, n_range := PySem.W.mg_none_of X G n_range, n_repr := PySem.W.mg_none_of X G n_repr, n_str := PySem.W.mg_none_of X G n_str, n_sum := PySem.W.mg_none_of X G n_sum, n_tuple := PySem.W.mg_none_of X G n_tuple }
  exact ⟨ct K _, _, rfl, fun s v => .of_eq rfl, fun base _ _ => ok_law T⟩
end SM

open PySem PySem.W PyProof.Rows
set_option maxRecDepth 100000 in
set_option maxHeartbeats 0 in
theorem PySem.Challenge.cw_storedtrees_k03_weights_of_steps_holds : PySem.Challenge.rw_storedtrees_k03_weights_of_steps.Holds := by
  w_on; o_law; k_head; (case hw => w_witness2)
  k_fill
  refine DL.walk_end (l := PySem.Challenge.rw_storedtrees_k03_weights_of_steps) (k := 7) (x := "_law_script") rfl rfl ⟨rfl, by decide, by decide⟩ (fun w h Y => PySem.W.kIn_of Y) SM.law_true ?F
  case F =>
    intro w mg fa h KX G hmg
    refine' SM.all_mk KX G hmg ?a0 ?l0 ?c0 ?k0 ?a1 ?l1 ?c1 ?k1 ?a2 ?l2 ?c2 ?k2 ?a3 ?l3 ?c3 ?k3 ?a4 ?l4 ?c4 ?k4 ?a5 ?l5 ?c5 ?k5 ?a6 ?l6 ?c6 ?k6 ?a7 ?l7 ?c7 ?k7 ?a8 ?l8 ?c8 ?k8 ?a9 ?l9 ?c9 ?k9 ?a10 ?l10 ?c10 ?k10 ?a11 ?l11 ?c11 ?k11 ?a12 ?l12 ?c12 ?k12 ?a13 ?l13 ?c13 ?k13 ?a14 ?l14 ?c14 ?k14 ?a15 ?l15 ?c15 ?k15 ?a16 ?l16 ?c16 ?k16 ?a17 ?l17 ?c17 ?k17 ?a18 ?l18 ?c18 ?k18 ?i_MOST_HEIGHT ?j_CUT_KINDS ?q_CUT_KINDS ?j_KINDS ?q_KINDS ?xa_InvalidKind ?xq_InvalidKind ?xk_InvalidKind ?xs_InvalidKind ?xt_InvalidKind ?xa_InvalidHeight ?xq_InvalidHeight ?xk_InvalidHeight ?xs_InvalidHeight ?xt_InvalidHeight ?xa_InvalidNode ?xq_InvalidNode ?xk_InvalidNode ?xs_InvalidNode ?xt_InvalidNode ?xa_InvalidDepth ?xq_InvalidDepth ?xk_InvalidDepth ?xs_InvalidDepth ?xt_InvalidDepth ?n_bool ?n_enumerate ?n_int ?n_isinstance ?n_len ?n_list ?n_max ?n_min ?n_range ?n_repr ?n_str ?n_sum ?n_tuple
    (case a0 => k_is)
    (case l0 => k_is)
    (case c0 => k_is)
    (case k0 => k_is)
    (case a1 => k_is)
    (case l1 => k_is)
    (case c1 => k_is)
    (case k1 => k_is)
    (case a2 => k_is)
    (case l2 => k_is)
    (case c2 => k_is)
    (case k2 => k_is)
    (case a3 => k_is)
    (case l3 => k_is)
    (case c3 => k_is)
    (case k3 => k_is)
    (case a4 => k_is)
    (case l4 => k_is)
    (case c4 => k_is)
    (case k4 => k_is)
    (case a5 => k_is)
    (case l5 => k_is)
    (case c5 => k_is)
    (case k5 => k_is)
    (case a6 => k_is)
    (case l6 => k_is)
    (case c6 => k_is)
    (case k6 => k_is)
    (case a7 => k_is)
    (case l7 => k_is)
    (case c7 => k_is)
    (case k7 => k_is)
    (case a8 => k_is)
    (case l8 => k_is)
    (case c8 => k_is)
    (case k8 => k_is)
    (case a9 => k_is)
    (case l9 => k_is)
    (case c9 => k_is)
    (case k9 => k_is)
    (case a10 => k_is)
    (case l10 => k_is)
    (case c10 => k_is)
    (case k10 => k_is)
    (case a11 => k_is)
    (case l11 => k_is)
    (case c11 => k_is)
    (case k11 => k_is)
    (case a12 => k_is)
    (case l12 => k_is)
    (case c12 => k_is)
    (case k12 => k_is)
    (case a13 => k_is)
    (case l13 => k_is)
    (case c13 => k_is)
    (case k13 => k_is)
    (case a14 => k_is)
    (case l14 => k_is)
    (case c14 => k_is)
    (case k14 => k_is)
    (case a15 => k_is)
    (case l15 => k_is)
    (case c15 => k_is)
    (case k15 => k_is)
    (case a16 => k_is)
    (case l16 => k_is)
    (case c16 => k_is)
    (case k16 => k_is)
    (case a17 => k_is)
    (case l17 => k_is)
    (case c17 => k_is)
    (case k17 => k_is)
    (case a18 => k_is)
    (case l18 => k_is)
    (case c18 => k_is)
    (case k18 => k_is)
    (case i_MOST_HEIGHT => k_is)
    (case j_CUT_KINDS => k_is)
    (case q_CUT_KINDS => k_is)
    (case j_KINDS => k_is)
    (case q_KINDS => k_is)
    (case xa_InvalidKind => k_is)
    (case xq_InvalidKind => k_exc)
    (case xk_InvalidKind => k_is)
    (case xs_InvalidKind => k_is)
    (case xt_InvalidKind => k_is)
    (case xa_InvalidHeight => k_is)
    (case xq_InvalidHeight => k_exc)
    (case xk_InvalidHeight => k_is)
    (case xs_InvalidHeight => k_is)
    (case xt_InvalidHeight => k_is)
    (case xa_InvalidNode => k_is)
    (case xq_InvalidNode => k_exc)
    (case xk_InvalidNode => k_is)
    (case xs_InvalidNode => k_is)
    (case xt_InvalidNode => k_is)
    (case xa_InvalidDepth => k_is)
    (case xq_InvalidDepth => k_exc)
    (case xk_InvalidDepth => k_is)
    (case xs_InvalidDepth => k_is)
    (case xt_InvalidDepth => k_is)
    (case n_bool => k_is)
    (case n_enumerate => k_is)
    (case n_int => k_is)
    (case n_isinstance => k_is)
    (case n_len => k_is)
    (case n_list => k_is)
    (case n_max => k_is)
    (case n_min => k_is)
    (case n_range => k_is)
    (case n_repr => k_is)
    (case n_str => k_is)
    (case n_sum => k_is)
    (case n_tuple => k_is)

