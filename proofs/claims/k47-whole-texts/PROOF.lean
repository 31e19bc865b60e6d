import PyProof.Rows.All
import Wide.All
import OpenK.AllK
import Wide.FinOn
import HandS.ForMost
import HandS.ForExc
import HandS.ExcInit
import HandS.Wide
import HandS.WideBits
import HandS.Star
import HandS.IsInst
import HandS.Deep
import PyProof.Rows.RuleB_pow
import HandS.Conv
import PyProof.RulesMatch
import HandS.EndBits
import PyProof.ReprRoads
import PyProof.ReprLen
import HandS.ExcIs
import HandS.Dict
import KE.SortData
import HandS.TupLe
import HandS.SortInts
import HandS.NoneIn
import HandS.TupSets
import KE.GoesEnum
import HandS.SetFor
import HandS.Strs
import HandS.WordsDict
import HandS.Text
import HandS.Iter
import HandS.List
import PyProof.StrBlock2
import PyProof.Rows.StrMul
import HandS.ExcField
import KE.KExcIs
import KE.KExcInit
import KE.KExcLine
import PyProof.ListOps
import PyProof.AutoSeq1
import HandS.More
import HandS.TupLen
import HandS.Property
import HandS.Style
import KE.KDictPairs
import HandS.Zip
import KE.GoesZip
import KE.GoesMore
import PySem.Challenge.RW_storedtrees_k47_whole_texts
set_option Elab.async false
set_option linter.all false
set_option maxRecDepth 100000
set_option maxHeartbeats 8000000
namespace DL
open PySem PySem.Spec L2
open PyProof.Rows hiding St
/-- data: `.dict []` is the empty dict; an exception of class number c is `.dict [(.none, .int c)]`, with a field behind it -/
abbrev D := PyData
/-- the slots of a def: the mode (true: the list there is this slot's own) and the data -/
abbrev Sl := List (Option (Bool × D))
/-- what a piece of code comes to -/
inductive R (s : Type) (a : Type) where
  | ok (x : a) (d : s)
  | exc (c : Nat) (xs : List D) (d : s)
  | stk
structure Ct where
  K : PySem.W.Frag
  cl : Nat → Addr
  fld : Nat → Str
/-- an exception object that has been caught -/
def XO (a : Addr) (cls : Value) (d : Option Addr) : HO := .ext fun h => ∃ (o : Obj) (vs : Array Value), h.get? a = some o ∧ o.cls = cls ∧ o.dict = d ∧ o.data = .fields vs
/-- the built-in classes that are handed around, by number -/
def tyNames : List String := ["int", "bool", "str", "tuple", "list", "ValueError"]
/-- the script: frozen, or in the written part -/
def ScrAt (K : PySem.W.Frag) (H : Hp) (a : Addr) (xs : List V) : Prop := (∃ o, H a = some (.frz o (.lst xs))) ∨
  ∃ (o : Obj) (its : Array Value) (n : Nat), K.lookup a = some o ∧ o.cls = .type "list" ∧ o.dict = none ∧ o.data = .seq its n ∧ its.size ≤ sizeLine ∧ Vals xs its.toList
theorem ScrAt.sq {K : PySem.W.Frag} {H : Hp} {a : Addr} {xs : List V} (h : ScrAt K H a xs) : SqL K H a xs := h.elim (fun z => .inl (.inr z)) .inr
/-- a pair of ints -/
def pairI : List D → Bool
  | [.int _, .int _] => true
  | _ => false
/-- a tuple; a pair of ints is an object of the heap -/
def TupD (K : PySem.W.Frag) (H : Hp) (a : Addr) (xs : List V) (ds : List D) : Prop := SqT K H a xs ∧ (pairI ds = true → H a = some (.tup xs))
theorem TupD.new {K : PySem.W.Frag} {H : Hp} {a : Addr} {xs : List V} {ds : List D} (h : H a = some (.tup xs)) : TupD K H a xs ds := ⟨.inl (.inl h), fun _ => h⟩
theorem TupD.non {K : PySem.W.Frag} {H : Hp} {a : Addr} {xs : List V} {ds : List D} (h : SqT K H a xs) (n : pairI ds = false) : TupD K H a xs ds := ⟨h, fun z => by rw [n] at z; cases z⟩
/-- the data of a dict of pairs of ints -/
def pkD (p : (Int × Int) × Int) : D × D := (.tuple [.int p.1.1, .int p.1.2], .int p.2)
def kvP (p : (Int × Int) × Int) : List Key × V := ([.inl p.1.1, .inl p.1.2], .int p.2)
/-- a list that is part of an object -/
def lpP (a : Addr) (xs : List V) : Heap → Prop := fun h => ∃ (its : List Value) (n : Nat), Vals xs its ∧ h.get? a = some { cls := .type "list", data := .seq its.toArray n }
def LP (a : Addr) (xs : List V) : HO := .ext (lpP a xs)
/-- the cells of objects -/
def OC (a : Addr) : HO → Prop
  | .ins _ _ _ => True
  | .ext φ => ∃ xs, φ = lpP a xs
  | _ => False
/-- the number of an object: a shadowed entry at the end of its attributes -/
def IdOf (fs : List (Str × V)) (k : Nat) : Prop := ∃ f v r, fs = (f, v) :: (r ++ [(f, .int (k : Int))])
/-- the same object cells -/
def PL (H H' : Hp) : Prop := ∀ a o, OC a o → (H a = some o ↔ H' a = some o)
theorem relV_ex : ∀ v : V, ∃ u, RelV v u
  | .non => ⟨_, rfl⟩
  | .bl _ => ⟨_, rfl⟩
  | .int i => ⟨.int i default, _, rfl⟩
  | .str x => ⟨.str x default, _, rfl⟩
  | .byt b => ⟨.bytes b default, _, rfl⟩
  | .flt b => ⟨.float b default, _, rfl⟩
  | .ref _ => ⟨_, rfl⟩
  | .ty _ => ⟨_, rfl⟩
theorem vals_ex : ∀ xs : List V, ∃ us, Vals xs us
  | [] => ⟨[], .nil⟩
  | x :: xs => by
    obtain ⟨u, h1⟩ := relV_ex x
    obtain ⟨us, h2⟩ := vals_ex xs
    exact ⟨u :: us, .cons h1 h2⟩
/-- what is no list is no part of an object -/
theorem oc_ext {a b : Addr} {φ : Heap → Prop} (hφ : ∀ (h : Heap) (its : Array Value) (n : Nat), φ h → h.get? a ≠ some { cls := .type "list", data := .seq its n }) : ¬ OC b (.ext φ) := fun ⟨xs, e⟩ => by
  obtain ⟨its, hv⟩ := vals_ex xs
  let o : Obj := { cls := .type "list", data := .seq its.toArray 0 }
  let h : Heap := { objs := Array.replicate (a + b + 1) o }
  have hg : ∀ c, c ≤ a + b → h.get? c = some o := fun c hc => by
    have hl : c < (Array.replicate (a + b + 1) o).size := by rw [Array.size_replicate]; exact Nat.lt_succ_of_le hc
    have q : (Array.replicate (a + b + 1) o)[c]? = some o := by rw [Array.getElem?_eq_getElem hl, Array.getElem_replicate]
    show (match (Array.replicate (a + b + 1) o)[c]? with
      | some ⟨_, _, .freed, _⟩ => none
      | o => o) = some o
    rw [q]
  have l : φ h := by rw [e]; exact ⟨its, 0, hv, hg b (Nat.le_add_left ..)⟩
  exact hφ h its.toArray 0 l (hg a (Nat.le_add_right ..))
theorem xo_noc {a b : Addr} {cls : Addr} {d : Option Addr} : ¬ OC b (XO a (.ref cls) d) := oc_ext (a := a) fun h its n ⟨o, vs, h1, h2, _⟩ e => by
  rw [h1] at e
  cases e
  cases h2
mutual
inductive Rep (C : Ct) (W : Addr → Prop) (H : Hp) : V → D → Prop
  | non : Rep C W H .non .none
  | bl (b : Bool) : Rep C W H (.bl b) (.bool b)
  | int (i : Int) : Rep C W H (.int i) (.int i)
  | str (x : Str) : Rep C W H (.str x) (.str x)
  | lst {a : Addr} {xs : List V} {ds : List D} : ¬ W a → H a = some (.lst xs) → RepL C W H xs ds → Rep C W H (.ref a) (.list ds)
  | scr {a : Addr} {xs : List V} {ds : List D} : ScrAt C.K H a xs → RepL C W H xs ds → Rep C W H (.ref a) (.dict [(.bool true, .list ds)])
  | tup {a : Addr} {xs : List V} {ds : List D} : TupD C.K H a xs ds → RepL C W H xs ds → Rep C W H (.ref a) (.tuple ds)
  | tyb {n : String} {k : Nat} : tyNames[k]? = some n → Rep C W H (.ty n) (.dict [(.bool false, .int (-(k : Int) - 1))])
  | tyo {c : Nat} : Rep C W H (.ref (C.cl c)) (.dict [(.bool false, .int (c : Int))])
  | dct {a : Addr} : ¬ W a → H a = some (.dK []) → Rep C W H (.ref a) (.dict [])
  | dki {a : Addr} {ps : List (Int × Int)} : ¬ W a → H a = some (.dK (ps.map fun p => (.inl p.1, .int p.2))) → Rep C W H (.ref a) (.dict [(.bool true, .tuple (ps.map fun p => .tuple [.int p.1, .int p.2]))])
  | dkt {a : Addr} {ps : List ((Int × Int) × Int)} : ¬ W a → Rd H a (.dT (ps.map kvP)) → Rep C W H (.ref a) (.dict [(.bool true, .dict (ps.map pkD))])
  | exc0 {a : Addr} {c : Nat} : H a = some (XO a (.ref (C.cl c)) none) → Rep C W H (.ref a) (.dict [(.none, .int (c : Int))])
  | exc1 {a dd : Addr} {c : Nat} {v : V} {d : D} : H a = some (XO a (.ref (C.cl c)) (some dd)) → H dd = some (.xd [(C.fld c, v)]) → Rep C W H v d → Rep C W H (.ref a) (.dict [(.none, .int (c : Int)), (.none, d)])
  | hdl {a cl dx : Addr} {fs : List (Str × V)} {k : Nat} : H a = some (.ins cl dx fs) → IdOf fs k → Rep C W H (.ref a) (.dict [(.int (k : Int), .none)])
  | opq {a : Addr} {z : D} : Rep C W H (.ref a) (.dict [(.bool true, .bool true), (.none, z)])
inductive RepL (C : Ct) (W : Addr → Prop) (H : Hp) : List V → List D → Prop
  | nil : RepL C W H [] []
  | cons {v : V} {vs : List V} {d : D} {ds : List D} : Rep C W H v d → RepL C W H vs ds → RepL C W H (v :: vs) (d :: ds)
end
section
variable {C : Ct} {W W' : Addr → Prop} {H H' : Hp}
theorem RepL.length : ∀ {vs : List V} {ds : List D}, RepL C W H vs ds → vs.length = ds.length
  | _, _, .nil => rfl
  | _, _, .cons _ t => by simp [RepL.length t]
theorem RepL.get : ∀ {vs : List V} {ds : List D} {i : Nat} {d : D}, RepL C W H vs ds → ds[i]? = some d → ∃ v, vs[i]? = some v ∧ Rep C W H v d
  | _, _, _, _, .nil, e => by simp at e
  | _, _, 0, _, .cons r _, e => by simp at e; subst e; exact ⟨_, rfl, r⟩
  | _, _, i + 1, d, .cons _ t, e => by
    obtain ⟨v, h1, h2⟩ := RepL.get (i := i) (d := d) t (by simpa using e)
    exact ⟨v, by simpa using h1, h2⟩
theorem RepL.append : ∀ {vs ws : List V} {ds es : List D}, RepL C W H vs ds → RepL C W H ws es → RepL C W H (vs ++ ws) (ds ++ es)
  | _, _, _, _, .nil, s => s
  | _, _, _, _, .cons r t, s => .cons r (RepL.append t s)
theorem RepL.one {v : V} {d : D} (h : Rep C W H v d) : RepL C W H [v] [d] := .cons h .nil
theorem RepL.set {v : V} {d : D} (r : Rep C W H v d) : ∀ {vs : List V} {ds : List D} (i : Nat), RepL C W H vs ds → RepL C W H (vs.set i v) (ds.set i d)
  | _, _, _, .nil => .nil
  | _, _, 0, .cons _ t => .cons r t
  | _, _, i + 1, .cons q t => .cons q (RepL.set r i t)
theorem RepL.take : ∀ {vs : List V} {ds : List D} (n : Nat), RepL C W H vs ds → RepL C W H (vs.take n) (ds.take n)
  | _, _, 0, _ => .nil
  | _, _, _ + 1, .nil => .nil
  | _, _, n + 1, .cons r t => .cons r (RepL.take n t)
theorem RepL.drop : ∀ {vs : List V} {ds : List D} (n : Nat), RepL C W H vs ds → RepL C W H (vs.drop n) (ds.drop n)
  | _, _, 0, r => r
  | _, _, _ + 1, .nil => .nil
  | _, _, n + 1, .cons _ t => RepL.drop n t
/-- what stands is kept, but the contents of lists at the addresses W -/
structure Kept (W : Addr → Prop) (H H' : Hp) : Prop where
  kp : ∀ a o, H a = some o → (W a → ∀ xs, o ≠ .lst xs) → (no : ¬ OC a o := by first | exact fun z => z | exact xo_noc | assumption) → H' a = some o
  hs : ∀ a cl dx fs k, H a = some (.ins cl dx fs) → IdOf fs k → ∃ fs', H' a = some (.ins cl dx fs') ∧ IdOf fs' k
theorem oc_sub {H H' : Hp} (h : ∀ a o, OC a o → H a = some o → H' a = some o) : ∀ a cl dx fs k, H a = some (.ins cl dx fs) → IdOf fs k → ∃ fs', H' a = some (.ins cl dx fs') ∧ IdOf fs' k := fun a cl dx fs k e i => ⟨fs, h a _ trivial e, i⟩
theorem Kept.sqT (k : Kept W H H') {K : PySem.W.Frag} {a : Addr} {xs : List V} (h : SqT K H a xs) : SqT K H' a xs := by
  rcases h with (h | ⟨o, h⟩) | h
  · exact .inl (.inl (k.kp _ _ h fun _ ys z => nomatch z))
  · exact .inl (.inr ⟨o, k.kp _ _ h fun _ ys z => nomatch z⟩)
  · exact .inr h
theorem Kept.tupD (k : Kept W H H') {K : PySem.W.Frag} {a : Addr} {xs : List V} {ds : List D} (h : TupD K H a xs ds) : TupD K H' a xs ds := ⟨k.sqT h.1, fun z => k.kp _ _ (h.2 z) fun _ ys q => nomatch q⟩
theorem Kept.rd (k : Kept W H H') {a : Addr} {kvs : List (List Key × V)} (h : Rd H a (.dT kvs)) : Rd H' a (.dT kvs) := by
  rcases h with h | ⟨o, h⟩
  · exact .inl (k.kp _ _ h fun _ ys q => nomatch q)
  · exact .inr ⟨o, k.kp _ _ h fun _ ys q => nomatch q⟩
theorem Rd.someH {a : Addr} {u : HO} (h : Rd H a u) : H a ≠ none := by
  rcases h with h | ⟨o, h⟩ <;> rw [h] <;> exact fun z => nomatch z
theorem Kept.scr (k : Kept W H H') {K : PySem.W.Frag} {a : Addr} {xs : List V} (h : ScrAt K H a xs) : ScrAt K H' a xs := h.imp (fun ⟨o, z⟩ => ⟨o, k.kp _ _ z fun _ ys z => nomatch z⟩) id
mutual
theorem Rep.move {O : Addr → Prop} (k : Kept O H H') (hO : ∀ a, O a → W a) (hw : ∀ a, W' a → W a ∨ H a = none) : ∀ {v : V} {d : D}, Rep C W H v d → Rep C W' H' v d
  | _, _, .non => .non
  | _, _, .bl b => .bl b
  | _, _, .int i => .int i
  | _, _, .str x => .str x
  | _, _, .lst n h t => .lst (fun z => (hw _ z).elim n fun q => by rw [h] at q; cases q) (k.kp _ _ h fun z => absurd (hO _ z) n) (RepL.move k hO hw t)
  | _, _, .scr h t => .scr (k.scr h) (RepL.move k hO hw t)
  | _, _, .tup h t => .tup (k.tupD h) (RepL.move k hO hw t)
  | _, _, .tyb h => .tyb h
  | _, _, .tyo => .tyo
  | _, _, .dct n h => .dct (fun z => (hw _ z).elim n fun q => by rw [h] at q; cases q) (k.kp _ _ h fun _ xs z => nomatch z)
  | _, _, .dki n h => .dki (fun z => (hw _ z).elim n fun q => by rw [h] at q; cases q) (k.kp _ _ h fun _ xs z => nomatch z)
  | _, _, .dkt n h => .dkt (fun z => (hw _ z).elim n fun q => absurd q (Rd.someH h)) (k.rd h)
  | _, _, .exc0 h => .exc0 (k.kp _ _ h fun _ xs z => nomatch z)
  | _, _, .exc1 h g r => .exc1 (k.kp _ _ h fun _ xs z => nomatch z) (k.kp _ _ g fun _ xs z => nomatch z) (Rep.move k hO hw r)
  | _, _, .hdl h i => by
    obtain ⟨fs', h1, h2⟩ := k.hs _ _ _ _ _ h i
    exact .hdl h1 h2
  | _, _, .opq => .opq
theorem RepL.move {O : Addr → Prop} (k : Kept O H H') (hO : ∀ a, O a → W a) (hw : ∀ a, W' a → W a ∨ H a = none) : ∀ {vs : List V} {ds : List D}, RepL C W H vs ds → RepL C W' H' vs ds
  | _, _, .nil => .nil
  | _, _, .cons r t => .cons (Rep.move k hO hw r) (RepL.move k hO hw t)
end
theorem Kept.refl : Kept W H H := ⟨fun _ _ h _ _ => h, oc_sub fun _ _ _ h => h⟩
theorem PL.refl : PL H H := fun _ _ _ => Iff.rfl
theorem PL.trans {H2 : Hp} (x : PL H H') (y : PL H' H2) : PL H H2 := fun a o h => (x a o h).trans (y a o h)
theorem PL.upd {p : Addr} {o : HO} (hp : H p = none ∨ ∃ u, H p = some u ∧ ¬ OC p u) (ho : ¬ OC p o := by first | exact fun z => z | exact xo_noc | assumption) : PL H (upd H p o) := fun a u h => by
  by_cases e : a = p
  · subst e
    rw [upd_same]
    constructor
    · intro z
      rcases hp with q | ⟨w, q, n⟩
      · rw [q] at z; cases z
      · rw [q] at z; cases z; exact absurd h n
    · intro z; cases z; exact absurd h ho
  · rw [upd_ne e]
theorem Rep.weak (hw : ∀ a, W' a → W a) {v : V} {d : D} (h : Rep C W H v d) : Rep C W' H v d := h.move (O := fun _ => False) Kept.refl (fun _ z => z.elim) fun a z => .inl (hw a z)
theorem RepL.weak (hw : ∀ a, W' a → W a) {v : List V} {d : List D} (h : RepL C W H v d) : RepL C W' H v d := h.move (O := fun _ => False) Kept.refl (fun _ z => z.elim) fun a z => .inl (hw a z)
end
/-- the addresses of the lists that are slots' own -/
def Own (δ : Sl) (σ : St) (a : Addr) : Prop := ∃ (i : Nat) (d : D), δ[i]? = some (some (true, d)) ∧ σ[i]? = some (some (.ref a))
/-- F: lists of the callers, not to be touched; Old: what was tracked at the entry; io: the parameters whose lists are the caller's slots -/
structure Gh where
  F : Addr → Prop
  Old : Addr → Prop
  io : List Nat
  /-- slots of the ghost (told by io, a thousand more) are never stored to -/
  ghio : ∀ i, i + 1000 ∈ io → i ∈ io
  /-- what holds of the objects -/
  iv : Ct → Sl → (Addr → Prop) → Hp → Prop
  ivs : ∀ C δ W H δ' W' H', iv C δ W H → PL H H' → (∀ i, i + 1000 ∈ io → δ'[i]? = δ[i]?) → (∀ v d, Rep C W H v d → Rep C W' H' v d) → iv C δ' W' H'
  ivg : ∀ C δ W H, iv C δ W H → ∀ i, i + 1000 ∈ io → ∃ d, δ[i]? = some (some (false, d))
def Gh.plus (G : Gh) (a : Addr) : Gh := { G with F := fun b => G.F b ∨ b = a }
def WW (G : Gh) (δ : Sl) (σ : St) (a : Addr) : Prop := G.F a ∨ Own δ σ a
structure ERel (C : Ct) (G : Gh) (δ : Sl) (σ : St) (H : Hp) : Prop where
  len : δ.length = σ.length
  sh : ∀ (i : Nat) (d : D), δ[i]? = some (some (false, d)) → ∃ v, σ[i]? = some (some v) ∧ Rep C (WW G δ σ) H v d
  ow : ∀ (i : Nat) (d : D), δ[i]? = some (some (true, d)) → ∃ a xs ds, σ[i]? = some (some (.ref a)) ∧ d = .list ds ∧ H a = some (.lst xs) ∧ RepL C (WW G δ σ) H xs ds ∧ ¬ G.F a ∧ (i ∉ G.io → ¬ G.Old a)
  inj : ∀ (i j : Nat) (a : Addr) (di dj : D), δ[i]? = some (some (true, di)) → δ[j]? = some (some (true, dj)) → σ[i]? = some (some (.ref a)) → σ[j]? = some (some (.ref a)) → i = j
  fl : ∀ a, G.F a → H a ≠ none
  ol : ∀ a, G.Old a → H a ≠ none
  sz : ∀ a xs, H a = some (.lst xs) → xs.length ≤ sizeLine
  iv : G.iv C δ (WW G δ σ) H
/-- a slot that is stored to is none of the ghost's -/
theorem ERel.ng {C : Ct} {G : Gh} {δ : Sl} {σ : St} {H : Hp} (E : ERel C G δ σ H) {i : Nat} {d : D} (h : δ[i]? = some (some (true, d))) : i + 1000 ∉ G.io := fun z => by
  obtain ⟨d', e⟩ := G.ivg _ _ _ _ E.iv i z
  rw [h] at e; cases e
theorem Gh.set (G : Gh) {δ : Sl} {i : Nat} {x : Option (Bool × D)} (h : i + 1000 ∉ G.io) : ∀ j, j + 1000 ∈ G.io → (δ.set i x)[j]? = δ[j]? := fun j hj => List.getElem?_set_ne fun (e : i = j) => h (by rw [e]; exact hj)
/-- from one moment to a later one -/
theorem Gh.nio {G : Gh} {i : Nat} (h : i ∉ G.io) : i + 1000 ∉ G.io := fun z => h (G.ghio i z)
theorem Kept.updL {H : Hp} {p : Addr} {xs ys : List V} (hp : H p = some (.lst xs)) : Kept (fun a => a = p) H (upd H p (.lst ys)) := ⟨fun a o h n _ => by
  by_cases e : a = p
  · rw [e, hp] at h
    cases h
    exact absurd rfl (n e xs)
  · rw [upd_ne e]; exact h, oc_sub fun a o oc h => by
  by_cases e : a = p
  · subst e; rw [hp] at h; cases h; exact oc.elim
  · rw [upd_ne e]; exact h⟩
structure Ext (δ : Sl) (σ : St) (H : Hp) (δ' : Sl) (σ' : St) (H' : Hp) : Prop where
  kp : Kept (Own δ σ) H H'
  th : ∀ a, H a ≠ none → H' a ≠ none
  own : ∀ a, Own δ' σ' a → Own δ σ a ∨ H a = none
section
variable {C : Ct} {G : Gh} {δ δ1 δ2 : Sl} {σ σ1 σ2 : St} {H H1 H2 : Hp}
theorem Ext.refl : Ext δ σ H δ σ H := ⟨Kept.refl, fun _ z => z, fun _ z => .inl z⟩
theorem Ext.trans (a : Ext δ σ H δ1 σ1 H1) (b : Ext δ1 σ1 H1 δ2 σ2 H2) : Ext δ σ H δ2 σ2 H2 where
  kp := ⟨fun c o h n no => b.kp.kp c o (a.kp.kp c o h n no) (fun z => by
    rcases a.own c z with q | q
    · exact n q
    · rw [h] at q; cases q) no, fun c cl dx fs k h i => by
    obtain ⟨fs', h1, h2⟩ := a.kp.hs c cl dx fs k h i
    exact b.kp.hs c cl dx fs' k h1 h2⟩
  th := fun c z => b.th c (a.th c z)
  own := fun c z => by
    rcases b.own c z with q | q
    · exact a.own c q
    · right
      cases e : H c with
      | none => rfl
      | some o => exact absurd q (a.th c (by rw [e]; exact fun z => nomatch z))
theorem Ext.ww (a : Ext δ σ H δ1 σ1 H1) : ∀ b, WW G δ1 σ1 b → WW G δ σ b ∨ H b = none := fun b z => by
  rcases z with z | z
  · exact .inl (.inl z)
  · rcases a.own b z with q | q
    · exact .inl (.inr q)
    · exact .inr q
theorem Ext.rep (a : Ext δ σ H δ1 σ1 H1) {v : V} {d : D} (r : Rep C (WW G δ σ) H v d) : Rep C (WW G δ1 σ1) H1 v d := r.move a.kp (fun _ z => .inr z) a.ww
theorem Ext.repL (a : Ext δ σ H δ1 σ1 H1) {v : List V} {d : List D} (r : RepL C (WW G δ σ) H v d) : RepL C (WW G δ1 σ1) H1 v d := r.move a.kp (fun _ z => .inr z) a.ww
/-- a slot's own list is tracked -/
theorem ERel.ownH (E : ERel C G δ σ H) {a : Addr} (h : Own δ σ a) : ∃ xs, H a = some (.lst xs) := by
  obtain ⟨i, d, h1, h2⟩ := h
  obtain ⟨b, xs, ds, e1, _, e2, _⟩ := E.ow i d h1
  rw [h2] at e1; cases e1
  exact ⟨xs, e2⟩
theorem ERel.wwH (E : ERel C G δ σ H) {a : Addr} (h : WW G δ σ a) : H a ≠ none := by
  rcases h with h | h
  · exact E.fl a h
  · obtain ⟨xs, e⟩ := E.ownH h
    rw [e]; exact fun z => nomatch z
theorem Own.plus {a : Addr} : WW G δ σ a → ∀ b, WW (G.plus b) δ σ a := fun h b => h.elim (fun z => .inl (.inl z)) .inr
/-- the heap grows by one object -/
theorem Kept.fresh {Wa : Addr → Prop} {p : Addr} {o : HO} (hp : H p = none) : Kept Wa H (upd H p o) := ⟨fun a u h _ _ => by rw [upd_ne (ne_of_none h hp)]; exact h, oc_sub fun a u _ h => by rw [upd_ne (ne_of_none h hp)]; exact h⟩
theorem ERel.grow {p : Addr} {o : HO} (E : ERel C G δ σ H) (hp : H p = none) (ho : ∀ xs, o = .lst xs → xs.length ≤ sizeLine) (no : ¬ OC p o := by first | exact fun z => z | exact xo_noc | assumption) : ERel C (G.plus p) δ σ (upd H p o) := by
  have kp : Kept (fun _ => False) H (upd H p o) := .fresh hp
  have mv : ∀ a, WW (G.plus p) δ σ a → WW G δ σ a ∨ H a = none := fun a z => by
    rcases z with (z | z) | z
    · exact .inl (.inl z)
    · exact .inr (by rw [z]; exact hp)
    · exact .inl (.inr z)
  refine ⟨E.len, fun i d e => ?_, fun i d e => ?_, E.inj, fun a z => ?_, fun a z => ?_, fun a xs z => ?_, G.ivs C _ _ _ _ _ _ E.iv (.upd (.inl hp) no) (fun _ _ => rfl) fun v d r => r.move kp (fun _ z => z.elim) mv⟩
  · obtain ⟨v, h1, h2⟩ := E.sh i d e
    exact ⟨v, h1, h2.move kp (fun _ z => z.elim) mv⟩
  · obtain ⟨a, xs, ds, h1, h2, h3, h4, h5, h6⟩ := E.ow i d e
    refine ⟨a, xs, ds, h1, h2, by rw [upd_ne (ne_of_none h3 hp)]; exact h3, h4.move kp (fun _ z => z.elim) mv, fun z => ?_, h6⟩
    rcases z with z | z
    · exact h5 z
    · exact ne_of_none h3 hp z
  · rcases z with z | z
    · have q := E.fl a z
      by_cases e : a = p
      · rw [e]; rw [upd_same]; exact fun z => nomatch z
      · rw [upd_ne e]; exact q
    · rw [z, upd_same]; exact fun z => nomatch z
  · have q := E.ol a z
    by_cases e : a = p
    · rw [e]; rw [upd_same]; exact fun z => nomatch z
    · rw [upd_ne e]; exact q
  · by_cases e : a = p
    · rw [e, upd_same] at z
      exact ho xs (Option.some.inj z)
    · rw [upd_ne e] at z; exact E.sz a xs z
theorem ERel.less {a : Addr} (E : ERel C (G.plus a) δ σ H) : ERel C G δ σ H := by
  have w : ∀ b, WW G δ σ b → WW (G.plus a) δ σ b := fun b z => z.elim (fun q => .inl (.inl q)) .inr
  refine ⟨E.len, fun i d e => ?_, fun i d e => ?_, E.inj, fun b z => E.fl b (.inl z), E.ol, E.sz, G.ivs C _ _ _ _ _ _ E.iv .refl (fun _ _ => rfl) fun v d r => r.weak w⟩
  · obtain ⟨v, h1, h2⟩ := E.sh i d e
    exact ⟨v, h1, h2.weak w⟩
  · obtain ⟨b, xs, ds, h1, h2, h3, h4, h5, h6⟩ := E.ow i d e
    exact ⟨b, xs, ds, h1, h2, h3, h4.weak w, fun z => h5 (.inl z), h6⟩
theorem Ext.grow {p : Addr} {o : HO} (hp : H p = none) : Ext δ σ H δ σ (upd H p o) :=
  ⟨.fresh hp, fun a z => by
    by_cases e : a = p
    · rw [e, upd_same]; exact fun z => nomatch z
    · rw [upd_ne e]; exact z, fun _ z => .inl z⟩
end
/-- the value of an expression is a list that nothing else has -/
def FreshV (C : Ct) (G : Gh) (δ : Sl) (σ : St) (H : Hp) (v : V) (d : D) : Prop :=
  ∃ a xs ds, v = .ref a ∧ d = .list ds ∧ ¬ G.Old a ∧ ¬ G.F a ∧ H a = some (.lst xs) ∧ RepL C (WW (G.plus a) δ σ) H xs ds ∧ ERel C (G.plus a) δ σ H
/-- the value of an expression is a pair of a number and a list that nothing else has -/
def FreshP (C : Ct) (G : Gh) (δ : Sl) (σ : St) (H : Hp) (v : V) (d : D) : Prop :=
  ∃ t n a xs ds, v = .ref t ∧ d = .tuple [.int n, .list ds] ∧ SqT C.K H t [.int n, .ref a] ∧ ¬ G.Old a ∧ ¬ G.F a ∧ H a = some (.lst xs) ∧ RepL C (WW (G.plus a) δ σ) H xs ds ∧ ERel C (G.plus a) δ σ H
section
variable {C : Ct} {G : Gh} {δ δ1 δ2 : Sl} {σ σ1 σ2 : St} {H H1 H2 : Hp} {v : V} {d : D}
theorem FreshV.rep (h : FreshV C G δ σ H v d) : Rep C (WW G δ σ) H v d := by
  obtain ⟨a, xs, ds, rfl, rfl, h1, h2, h3, h4, E⟩ := h
  refine .lst (fun z => ?_) h3 (h4.weak fun b z => z.elim (fun q => .inl (.inl q)) .inr)
  rcases z with z | ⟨i, d, e1, e2⟩
  · exact h2 z
  · obtain ⟨b, _, _, e3, _, _, _, n, _⟩ := E.ow i d e1
    rw [e2] at e3; cases e3
    exact n (.inr rfl)
/-- a new list -/
theorem FreshV.new {p : Addr} {xs : List V} {ds : List D} (E : ERel C G δ σ H) (hp : H p = none) (hl : xs.length ≤ sizeLine) (r : RepL C (WW G δ σ) H xs ds) : FreshV C G δ σ (upd H p (.lst xs)) (.ref p) (.list ds) := by
  refine ⟨p, xs, ds, rfl, rfl, fun z => E.ol p z hp, fun z => E.fl p z hp, upd_same, ?_, E.grow hp fun ys e => by cases e; exact hl⟩
  refine r.move (O := fun _ => False) (.fresh hp) (fun _ z => z.elim) fun a z => ?_
  rcases z with (z | z) | z
  · exact .inl (.inl z)
  · exact .inr (by rw [z]; exact hp)
  · exact .inl (.inr z)
end
def ExcV (C : Ct) (W : Addr → Prop) (H : Hp) (cls : Value) (dct : Option Addr) (c : Nat) (xs : List D) : Prop :=
  cls = .ref (C.cl c) ∧ ((xs = [] ∧ dct = none) ∨ ∃ dd v d, xs = [d] ∧ dct = some dd ∧ H dd = some (.xd [(C.fld c, v)]) ∧ Rep C W H v d)
abbrev EV := R Sl (D × Bool)
/-- what is wanted of a piece that comes to r -/
def Post {α : Type} (C : Ct) (W : WX) (G : Gh) (δ : Sl) (σ : St) (H : Hp) (k : α → Sl → Hp → Prop) (r : R Sl α) : Prop := match r with
  | .ok x δ' => ∀ H', ERel C G δ' σ H' → Ext δ σ H δ' σ H' → k x δ' H'
  | .exc c xs δ' => ∀ cls dct H', ERel C G δ' σ H' → Ext δ σ H δ' σ H' → ExcV C (WW G δ' σ) H' cls dct c xs → W cls dct σ H'
  | .stk => False
/-- .. that was not there at the start (or was a slot's own) -/
def FreshN (C : Ct) (G : Gh) (δ0 : Sl) (H0 : Hp) (δ : Sl) (σ : St) (H : Hp) (v : V) (d : D) : Prop := FreshV C G δ σ H v d ∧ ∀ a, v = .ref a → H0 a = none ∨ Own δ0 σ a
def kE (C : Ct) (G : Gh) (δ0 : Sl) (σ : St) (H0 : Hp) (Q : VK) : D × Bool → Sl → Hp → Prop := fun p δ' H' => ∀ v, Rep C (WW G δ' σ) H' v p.1 → (p.2 = true → FreshN C G δ0 H0 δ' σ H' v p.1) → Q v H'
def kT (Q : Bool → Hp → Prop) : Bool → Sl → Hp → Prop := fun b _ H' => Q b H'
def kA (C : Ct) (G : Gh) (σ : St) (Q : List V → Hp → Prop) : List D → Sl → Hp → Prop := fun ds δ' H' => ∀ vs, RepL C (WW G δ' σ) H' vs ds → Q vs H'
def tD (C : Ct) (W : WX) (G : Gh) (g : Sl → EV) : TE := fun σ H Q => ∃ δ, ERel C G δ σ H ∧ Post C W G δ σ H (kE C G δ σ H Q) (g δ)
def tT (C : Ct) (W : WX) (G : Gh) (g : Sl → R Sl Bool) : TT := fun σ H Q => ∃ δ, ERel C G δ σ H ∧ Post C W G δ σ H (kT Q) (g δ)
def tA (C : Ct) (W : WX) (G : Gh) (g : Sl → R Sl (List D)) : TA := fun σ H Q => ∃ δ, ERel C G δ σ H ∧ Post C W G δ σ H (kA C G σ Q) (g δ)
theorem PE.imp {X : Cx} {e : Expr} {t t' : TE} (h : PE X e t) (hi : ∀ σ H Q, t' σ H Q → t σ H Q) : PE X e t' := ⟨fun pins s σ H Q I q => h.run pins s σ H Q I (hi σ H Q q)⟩
theorem PT.imp {X : Cx} {e : Expr} {t t' : TT} (h : PT X e t) (hi : ∀ σ H Q, t' σ H Q → t σ H Q) : PT X e t' := ⟨fun pins s σ H Q I q => h.run pins s σ H Q I (hi σ H Q q)⟩
theorem PA.imp {X : Cx} {e : List Expr} {t t' : TA} (h : PA X e t) (hi : ∀ σ H Q, t' σ H Q → t σ H Q) : PA X e t' := ⟨fun pos pins s σ H Q I q => h.run pos pins s σ H Q I (hi σ H Q q)⟩
theorem PS.imp {X : Cx} {e : Stmt} {t t' : TS} (h : PS X e t) (hi : ∀ D σ H, t' D σ H → t D σ H) : PS X e t' := ⟨fun pins s σ H D I q => h.run pins s σ H D I (hi D σ H q)⟩
theorem PSs.imp {X : Cx} {e : List Stmt} {t t' : TS} (h : PSs X e t) (hi : ∀ D σ H, t' D σ H → t D σ H) : PSs X e t' := ⟨fun pins s σ H D I q => h.run pins s σ H D I (hi D σ H q)⟩
/-- one piece behind another -/
def R.bind {s a b : Type} (x : R s a) (f : a → s → R s b) : R s b := match x with
  | .ok v d => f v d
  | .exc c xs d => .exc c xs d
  | .stk => .stk
section
variable {α β : Type} {C : Ct} {W : WX} {G : Gh} {δ δ1 : Sl} {σ : St} {H H1 : Hp} {r : R Sl α} {k k' : α → Sl → Hp → Prop}
/-- the wish, seen from a later moment -/
theorem Post.later (x : Ext δ σ H δ1 σ H1) (h : Post C W G δ σ H k r) : Post C W G δ1 σ H1 k r := by
  cases r with
  | ok p δ' => exact fun H' E e => h H' E (x.trans e)
  | exc c xs δ' => exact fun cls dct H' E e v => h cls dct H' E (x.trans e) v
  | stk => exact h
theorem Post.imp (h : Post C W G δ σ H k r) (i : ∀ x δ' H', ERel C G δ' σ H' → Ext δ σ H δ' σ H' → k x δ' H' → k' x δ' H') : Post C W G δ σ H k' r := by
  cases r with
  | ok p δ' => exact fun H' E e => i _ _ _ E e (h H' E e)
  | exc c xs δ' => exact h
  | stk => exact h
theorem Ext.back (x : Ext δ σ H δ1 σ H1) {a : Addr} (h : H1 a = none ∨ Own δ1 σ a) : H a = none ∨ Own δ σ a := by
  rcases h with h | h
  · cases e : H a with
    | none => exact .inl rfl
    | some o => exact absurd h (x.th a (by rw [e]; exact fun z => nomatch z))
  · exact (x.own a h).symm
theorem FreshN.early {δ2 : Sl} {H2 : Hp} {v : V} {d : D} (x : Ext δ σ H δ1 σ H1) (f : FreshN C G δ1 H1 δ2 σ H2 v d) : FreshN C G δ H δ2 σ H2 v d := ⟨f.1, fun a e => x.back (f.2 a e)⟩
/-- the wish of an expression, from a later start -/
theorem Post.at {r : EV} {Q : VK} (p : Post C W G δ1 σ H1 (kE C G δ σ H Q) r) (x : Ext δ σ H δ1 σ H1) : Post C W G δ1 σ H1 (kE C G δ1 σ H1 Q) r :=
  p.imp fun q δ' H' E X k v rv f => k v rv fun z => (f z).early x
theorem Post.bind {kb : β → Sl → Hp → Prop} {f : α → Sl → R Sl β} (p : Post C W G δ σ H kb (r.bind f)) : Post C W G δ σ H (fun x δ1 H1 => Post C W G δ1 σ H1 kb (f x δ1)) r := by
  cases r with
  | ok x δ' => exact fun H' E e => Post.later e p
  | exc c xs δ' => exact p
  | stk => exact p
end
end DL
namespace DL
open PySem PySem.Spec L2
open PyProof.Rows hiding St
def gVar (i : Nat) : Sl → EV := fun δ => match δ[i]? with
  | some (some (false, d)) => .ok (d, false) δ
  | some (some (true, d)) => .ok (d, false) (δ.set i (some (false, d)))
  | _ => .stk
def gMove (io : List Nat) (i : Nat) : Sl → EV := fun δ => match δ[i]? with
  | some (some (false, d)) => .ok (d, false) δ
  | some (some (true, d)) => if io.contains i then .stk else .ok (d, true) (δ.set i none)
  | _ => .stk
def gC (d : D) : Sl → EV := fun δ => .ok (d, false) δ
section
variable {C : Ct} {W : WX} {G : Gh} {δ : Sl} {σ : St} {H : Hp} {X : Cx}
theorem own_set {i : Nat} {x : Option (Bool × D)} (hx : ∀ d, x ≠ some (true, d)) : ∀ a, Own (δ.set i x) σ a → Own δ σ a ∧ ∃ j d, j ≠ i ∧ δ[j]? = some (some (true, d)) ∧ σ[j]? = some (some (.ref a)) := fun a ⟨j, d, h1, h2⟩ => by
  by_cases e : i = j
  · subst e
    by_cases hl : i < δ.length
    · rw [List.getElem?_set_self hl] at h1
      exact absurd (Option.some.inj h1) (hx d)
    · rw [List.getElem?_eq_none (by simpa using hl)] at h1
      cases h1
  · rw [List.getElem?_set_ne e] at h1
    exact ⟨⟨j, d, h1, h2⟩, j, d, Ne.symm e, h1, h2⟩
/-- a slot's own list is let go: shared (or gone) -/
theorem ERel.freeze {i : Nat} {a : Addr} {xs : List V} {ds : List D} {x : Option (Bool × D)} (E : ERel C G δ σ H) (hi : δ[i]? = some (some (true, .list ds))) (hs : σ[i]? = some (some (.ref a))) (hx : x = none ∨ x = some (false, .list ds)) : ERel C G (δ.set i x) σ H ∧ ¬ WW G (δ.set i x) σ a := by
  have hx' : ∀ d, x ≠ some (true, d) := fun d z => by rcases hx with h | h <;> rw [h] at z <;> cases z
  have w : ∀ b, WW G (δ.set i x) σ b → WW G δ σ b := fun b z => z.elim .inl fun q => .inr (own_set hx' b q).1
  obtain ⟨b, ys, es, h1, h2, h3, h4, h5, h6⟩ := E.ow i _ hi
  rw [hs] at h1; cases h1
  cases h2
  have na : ¬ WW G (δ.set i x) σ a := fun z => by
    rcases z with z | z
    · exact h5 z
    · obtain ⟨_, j, d, hj, g1, g2⟩ := own_set hx' a z
      exact hj (E.inj j i a d _ g1 hi g2 hs)
  have hil : i < δ.length := (List.getElem?_eq_some_iff.mp hi).1
  refine ⟨⟨by rw [List.length_set]; exact E.len, fun j d e => ?_, fun j d e => ?_, fun j k b dj dk g1 g2 g3 g4 => ?_, E.fl, E.ol, E.sz, G.ivs C _ _ _ _ _ _ E.iv .refl (G.set (E.ng hi)) fun v d r => r.weak w⟩, na⟩
  · by_cases q : i = j
    · subst q
      rw [List.getElem?_set_self hil] at e
      rcases hx with z | z
      · rw [z] at e; cases e
      · rw [z] at e; cases e
        exact ⟨_, hs, .lst na h3 (h4.weak w)⟩
    · rw [List.getElem?_set_ne q] at e
      obtain ⟨v, r1, r2⟩ := E.sh j d e
      exact ⟨v, r1, r2.weak w⟩
  · by_cases q : i = j
    · subst q
      rw [List.getElem?_set_self hil] at e
      exact absurd (Option.some.inj e) (hx' d)
    · rw [List.getElem?_set_ne q] at e
      obtain ⟨b, ys, es, r1, r2, r3, r4, r5⟩ := E.ow j d e
      exact ⟨b, ys, es, r1, r2, r3, r4.weak w, r5⟩
  · by_cases q : i = j
    · subst q
      rw [List.getElem?_set_self hil] at g1
      exact absurd (Option.some.inj g1) (hx' _)
    · by_cases q' : i = k
      · subst q'
        rw [List.getElem?_set_self hil] at g2
        exact absurd (Option.some.inj g2) (hx' _)
      · rw [List.getElem?_set_ne q] at g1
        rw [List.getElem?_set_ne q'] at g2
        exact E.inj j k b dj dk g1 g2 g3 g4
theorem Ext.freeze {i : Nat} {x : Option (Bool × D)} (hx : ∀ d, x ≠ some (true, d)) : Ext δ σ H (δ.set i x) σ H := ⟨Kept.refl, fun _ z => z, fun a z => .inl (own_set hx a z).1⟩
theorem pd_var {i : Nat} {x : Str} {pos : Pos} (h : PE X (.Name x pos) (tVar i)) : PE X (.Name x pos) (tD C W G (gVar i)) := PE.imp h fun σ H Q ⟨δ, E, p⟩ => by
  unfold gVar at p
  split at p
  · rename_i d e
    obtain ⟨v, h1, h2⟩ := E.sh i d e
    exact ⟨v, h1, p H E Ext.refl v h2 fun z => nomatch z⟩
  · rename_i d e
    obtain ⟨a, xs, ds, h1, rfl, h3, h4, _⟩ := E.ow i d e
    obtain ⟨E', na⟩ := E.freeze (xs := xs) e h1 (.inr rfl)
    have hil : i < δ.length := (List.getElem?_eq_some_iff.mp e).1
    have x := Ext.freeze (δ := δ) (σ := σ) (H := H) (i := i) (x := some (false, PyData.list ds)) fun d z => by cases z
    exact ⟨_, h1, p H E' x _ (.lst na h3 (h4.weak fun b z => z.elim .inl fun q => .inr (own_set (fun d z => by cases z) b q).1)) fun z => nomatch z⟩
  · exact p.elim
theorem pd_move {i : Nat} {x : Str} {pos : Pos} (h : PE X (.Name x pos) (tVar i)) : PE X (.Name x pos) (tD C W G (gMove G.io i)) := PE.imp h fun σ H Q ⟨δ, E, p⟩ => by
  unfold gMove at p
  split at p
  · rename_i d e
    obtain ⟨v, h1, h2⟩ := E.sh i d e
    exact ⟨v, h1, p H E Ext.refl v h2 fun z => nomatch z⟩
  · rename_i d e
    split at p
    · exact p.elim
    · rename_i hio
      obtain ⟨a, xs, ds, h1, rfl, h3, h4, h5, h6⟩ := E.ow i d e
      obtain ⟨E', na⟩ := E.freeze (xs := xs) e h1 (.inl rfl)
      have x := Ext.freeze (δ := δ) (σ := σ) (H := H) (i := i) (x := none) fun d z => by cases z
      have w : ∀ b, WW (G.plus a) (δ.set i none) σ b → WW G δ σ b := fun b z => by
        rcases z with (z | z) | z
        · exact .inl z
        · exact .inr ⟨i, _, e, by rw [z]; exact h1⟩
        · exact .inr (own_set (fun d z => by cases z) b z).1
      have f : FreshV C G (δ.set i none) σ H (.ref a) (.list ds) := by
        refine ⟨a, xs, ds, rfl, rfl, h6 (by simpa using hio), h5, h3, h4.weak w, ⟨E'.len, fun j d q => ?_, fun j d q => ?_, E'.inj, fun b z => ?_, E'.ol, E'.sz, G.ivs C _ _ _ _ _ _ E.iv .refl (G.set (E.ng e)) fun v d r => r.weak w⟩⟩
        · have hj : i ≠ j := fun z => by
            subst z
            rw [List.getElem?_set_self (List.getElem?_eq_some_iff.mp e).1] at q
            cases q
          rw [List.getElem?_set_ne hj] at q
          obtain ⟨v, r1, r2⟩ := E.sh j d q
          exact ⟨v, r1, r2.weak w⟩
        · have hj : i ≠ j := fun z => by
            subst z
            rw [List.getElem?_set_self (List.getElem?_eq_some_iff.mp e).1] at q
            cases q
          rw [List.getElem?_set_ne hj] at q
          obtain ⟨b, ys, es, r1, r2, r3, r4, r5, r6⟩ := E.ow j d q
          refine ⟨b, ys, es, r1, r2, r3, r4.weak w, fun z => ?_, r6⟩
          rcases z with z | z
          · exact r5 z
          · exact hj (E.inj i j a _ _ e q h1 (by rw [← z]; exact r1))
        · rcases z with z | z
          · exact E.fl b z
          · rw [z, h3]; exact fun z => nomatch z
      exact ⟨_, h1, p H E' x _ f.rep fun _ => ⟨f, fun b z => by cases z; exact .inr ⟨i, _, e, h1⟩⟩⟩
  · exact p.elim
/-- a constant -/
theorem pd_C {e : Expr} {v : V} {d : D} (h : PE X e (tC v)) (r : ∀ W H, Rep C W H v d) : PE X e (tD C W G (gC d)) := PE.imp h fun σ H Q ⟨δ, E, p⟩ => p H E Ext.refl v (r _ H) fun z => nomatch z
theorem pd_int {i j pos} : PE X (.Constant (.int i) j pos) (tD C W G (gC (.int i))) := pd_C pe_int fun _ _ => .int i
theorem pd_bl {b j pos} : PE X (.Constant (.bool b) j pos) (tD C W G (gC (.bool b))) := pd_C pe_bl fun _ _ => .bl b
theorem pd_non {j pos} : PE X (.Constant .none j pos) (tD C W G (gC .none)) := pd_C pe_non fun _ _ => .non
theorem pd_str {x y : Str} {j pos} (h : x = y) : PE X (.Constant (.str x) j pos) (tD C W G (gC (.str y))) := by subst h; exact pd_C pe_str fun _ _ => .str x
end
abbrev DOp := D → D → Option (D × Bool)
def OpD (C : Ct) (r : R2) (f : DOp) : Prop := ∀ (G : Gh) (δ : Sl) (σ : St) (H : Hp) (x y : V) (v w : D) (p : D × Bool) (Q : VK), ERel C G δ σ H → Rep C (WW G δ σ) H x v → Rep C (WW G δ σ) H y w → f v w = some p →
  (∀ u H', ERel C G δ σ H' → Ext δ σ H δ σ H' → Rep C (WW G δ σ) H' u p.1 → (p.2 = true → FreshN C G δ H δ σ H' u p.1) → Q u H') → r x y H Q
/-- an answer without a list -/
theorem atom {C : Ct} {G : Gh} {δ : Sl} {σ : St} {H : Hp} {Q : VK} {d : D} {v : V} (E : ERel C G δ σ H) (q : ∀ u H', ERel C G δ σ H' → Ext δ σ H δ σ H' → Rep C (WW G δ σ) H' u d → (false = true → FreshN C G δ H δ σ H' u d) → Q u H') (r : Rep C (WW G δ σ) H v d) : Q v H :=
  q v H E Ext.refl r fun z => nomatch z
/-- an answer that is a new list -/
theorem newl {C : Ct} {G : Gh} {δ : Sl} {σ : St} {H : Hp} {Q : VK} {xs : List V} {ds : List D} {p : Addr} (E : ERel C G δ σ H) (q : ∀ u H', ERel C G δ σ H' → Ext δ σ H δ σ H' → Rep C (WW G δ σ) H' u (.list ds) → (true = true → FreshN C G δ H δ σ H' u (.list ds)) → Q u H')
    (r : RepL C (WW G δ σ) H xs ds) (hl : xs.length ≤ sizeLine) (hp : H p = none) : Q (.ref p) (upd H p (.lst xs)) := by
  have f := FreshV.new E hp hl r
  exact q _ _ (E.grow hp fun ys e => by cases e; exact hl).less (Ext.grow hp) f.rep fun _ => ⟨f, fun a e => by cases e; exact .inl hp⟩
theorem newt {C : Ct} {G : Gh} {δ : Sl} {σ : St} {H : Hp} {Q : VK} {xs : List V} {ds : List D} {p : Addr} (E : ERel C G δ σ H) (q : ∀ u H', ERel C G δ σ H' → Ext δ σ H δ σ H' → Rep C (WW G δ σ) H' u (.tuple ds) → (false = true → FreshN C G δ H δ σ H' u (.tuple ds)) → Q u H')
    (r : RepL C (WW G δ σ) H xs ds) (hp : H p = none) : Q (.ref p) (upd H p (.tup xs)) := by
  have x : Ext δ σ H δ σ (upd H p (.tup xs)) := Ext.grow hp
  exact q _ _ (E.grow hp fun ys e => by cases e).less x (.tup (.new upd_same) (x.repL r)) fun z => nomatch z
abbrev LINE : Nat := 16777216
theorem line_eq : (LINE : Nat) = sizeLine := sizeLine_eq.symm
def dAdd : DOp
  | .int i, .int j => some (.int (i + j), false)
  | .str x, .str y => if x.length + y.length ≤ LINE then some (.str (x ++ y), false) else none
  | .list xs, .list ys => if xs.length + ys.length ≤ LINE then some (.list (xs ++ ys), true) else none
  | _, _ => none
def dSub : DOp
  | .int i, .int j => some (.int (i - j), false)
  | _, _ => none
def bitsOk (n : Int) : Bool := decide (n ≤ 134217728)
def dMul : DOp
  | .int i, .int j => if bitsOk ((Builtin.Int.intBits i : Int) + (Builtin.Int.intBits j : Int)) then some (.int (i * j), false) else none
  | .list xs, .int k => if 0 ≤ k ∧ k ≤ 1000000 ∧ xs.length * k.toNat ≤ LINE then some (.list (List.replicate k.toNat xs).flatten, true) else none
  | _, _ => none
def dDiv : DOp
  | .int i, .int j => if 0 < j ∧ j.natAbs.log2 < 9000 then some (.int (i / j), false) else none
  | _, _ => none
def dMod : DOp
  | .int i, .int j => if 0 < j then some (.int (i % j), false) else none
  | _, _ => none
def dShl : DOp
  | .int i, .int j => if 0 ≤ j ∧ bitsOk ((Builtin.Int.intBits i : Int) + j) then some (.int (i * 2 ^ j.toNat), false) else none
  | _, _ => none
def dShr : DOp
  | .int i, .int j => if 0 ≤ j then some (.int (i / 2 ^ j.toNat), false) else none
  | _, _ => none
def dPow : DOp
  | .int i, .int j => if 0 ≤ j ∧ bitsOk ((Builtin.Int.intBits i : Int) * j) then some (.int (i ^ j.toNat), false) else none
  | _, _ => none
def dAnd : DOp
  | .int i, .int j => some (.int (Builtin.bitAnd i j), false)
  | _, _ => none
def dXor : DOp
  | .int i, .int j => some (.int (Builtin.bitXor i j), false)
  | _, _ => none
def dCmp (p : Int → Int → Bool) : DOp
  | .int i, .int j => some (.bool (p i j), false)
  | _, _ => none
abbrev dLt := dCmp fun i j => decide (i < j)
abbrev dLe := dCmp fun i j => decide (i ≤ j)
abbrev dGt := dCmp fun i j => decide (j < i)
abbrev dGe := dCmp fun i j => decide (j ≤ i)
def dEq : DOp := fun a b => if SeqAt.shaped a && SeqAt.shaped b then some (.bool (PyData.eqv a b), false) else none
def dNe : DOp := fun a b => if SeqAt.shaped a && SeqAt.shaped b then some (.bool (!PyData.eqv a b), false) else none
def dIs : DOp
  | .none, .none => some (.bool true, false)
  | _, .none => some (.bool false, false)
  | _, _ => none
def dIsN : DOp
  | .none, .none => some (.bool false, false)
  | _, .none => some (.bool true, false)
  | _, _ => none
def flatD : D → Bool
  | .none => true
  | .bool _ => true
  | .int _ => true
  | .str _ => true
  | _ => false
def inD (x : D) (xs : List D) : Bool := xs.any fun y => PyData.eqv y x
def dNotIn : DOp
  | x, .list xs => if flatD x && xs.all flatD then some (.bool (!inD x xs), false) else if SeqAt.shaped x && SeqAt.shaped (.list xs) then some (.bool (!inD x xs), false) else none
  | x, .tuple xs => if flatD x && xs.all flatD then some (.bool (!inD x xs), false) else if SeqAt.shaped x && SeqAt.shaped (.tuple xs) then some (.bool (!inD x xs), false) else none
  | .str x, .str y => some (.bool (!(!(Builtin.Str.occurrences y x 0 y.length 1).isEmpty)), false)
  | _, _ => none
section
variable {C : Ct}
theorem ok_I0 {g : Int → Int → V} {f : DOp} {h : Int → Int → D} (hf : ∀ v w p, f v w = some p → ∃ i j, v = .int i ∧ w = .int j ∧ p = (h i j, false)) (hr : ∀ i j W H, Rep C W H (g i j) (h i j)) : OpD C (rI0 g) f := fun G δ σ H x y v w p Q E rx ry e q => by
  obtain ⟨i, j, rfl, rfl, rfl⟩ := hf v w p e
  cases rx; cases ry
  exact ⟨i, j, rfl, rfl, atom E q (hr i j _ H)⟩
theorem ok_I {P : Int → Int → Prop} {g : Int → Int → V} {f : DOp} {h : Int → Int → D} (hf : ∀ v w p, f v w = some p → ∃ i j, v = .int i ∧ w = .int j ∧ p = (h i j, false) ∧ P i j) (hr : ∀ i j W H, Rep C W H (g i j) (h i j)) : OpD C (rI P g) f := fun G δ σ H x y v w p Q E rx ry e q => by
  obtain ⟨i, j, rfl, rfl, rfl, c⟩ := hf v w p e
  cases rx; cases ry
  exact ⟨i, j, rfl, rfl, c, atom E q (hr i j _ H)⟩
theorem od_sub : OpD C (rI0 fun i j => .int (i - j)) dSub := ok_I0 (h := fun i j => .int (i - j)) (fun v w p e => by unfold dSub at e; split at e <;> first | exact ⟨_, _, rfl, rfl, (Option.some.inj e).symm⟩ | cases e) fun i j W H => .int _
theorem od_and : OpD C (rI0 fun i j => .int (Builtin.bitAnd i j)) dAnd := ok_I0 (h := fun i j => .int (Builtin.bitAnd i j)) (fun v w p e => by unfold dAnd at e; split at e <;> first | exact ⟨_, _, rfl, rfl, (Option.some.inj e).symm⟩ | cases e) fun i j W H => .int _
theorem od_xor : OpD C (rI0 fun i j => .int (Builtin.bitXor i j)) dXor := ok_I0 (h := fun i j => .int (Builtin.bitXor i j)) (fun v w p e => by unfold dXor at e; split at e <;> first | exact ⟨_, _, rfl, rfl, (Option.some.inj e).symm⟩ | cases e) fun i j W H => .int _
theorem od_cmp {q : Int → Int → Bool} : OpD C (rI0 fun i j => .bl (q i j)) (dCmp q) := ok_I0 (h := fun i j => .bool (q i j)) (fun v w p e => by unfold dCmp at e; split at e <;> first | exact ⟨_, _, rfl, rfl, (Option.some.inj e).symm⟩ | cases e) fun i j W H => .bl _
theorem od_div : OpD C (rI CDivW fun i j => .int (i / j)) dDiv := ok_I (h := fun i j => .int (i / j)) (fun v w p e => by
  unfold dDiv at e
  split at e
  · split at e
    · rename_i c; exact ⟨_, _, rfl, rfl, (Option.some.inj e).symm, c⟩
    · cases e
  · cases e) fun i j W H => .int _
theorem od_mod : OpD C (rI (fun _ j => 0 < j) fun i j => .int (i % j)) dMod := ok_I (h := fun i j => .int (i % j)) (fun v w p e => by
  unfold dMod at e
  split at e
  · split at e
    · rename_i c; exact ⟨_, _, rfl, rfl, (Option.some.inj e).symm, c⟩
    · cases e
  · cases e) fun i j W H => .int _
theorem od_shr : OpD C (rI (fun _ j => 0 ≤ j) fun i j => .int (i / 2 ^ j.toNat)) dShr := ok_I (h := fun i j => .int (i / 2 ^ j.toNat)) (fun v w p e => by
  unfold dShr at e
  split at e
  · split at e
    · rename_i c; exact ⟨_, _, rfl, rfl, (Option.some.inj e).symm, c⟩
    · cases e
  · cases e) fun i j W H => .int _
theorem od_shl : OpD C (rI CShl fun i j => .int (i * 2 ^ j.toNat)) dShl := ok_I (h := fun i j => .int (i * 2 ^ j.toNat)) (fun v w p e => by
  unfold dShl at e
  split at e
  · split at e
    · rename_i c
      refine ⟨_, _, rfl, rfl, (Option.some.inj e).symm, c.1, ?_⟩
      have := of_decide_eq_true (show decide _ = true from c.2)
      have e2 : (2 : Int) ^ 27 = 134217728 := by decide
      omega
    · cases e
  · cases e) fun i j W H => .int _
/-- ** of ints -/
def CPowW (i j : Int) : Prop := 0 ≤ j ∧ (Builtin.Int.intBits i : Int) * j ≤ 2 ^ 27
theorem op_powW {X : Cx} : OpR X (binaryOp .Pow) (rI CPowW fun i j => .int (i ^ j.toNat)) := opI fun _ _ _ _ _ _ _ hc q => pow_int hc.1 hc.2 q
theorem od_pow : OpD C (rI CPowW fun i j => .int (i ^ j.toNat)) dPow := ok_I (h := fun i j => .int (i ^ j.toNat)) (fun v w p e => by
  unfold dPow at e
  split at e
  · split at e
    · rename_i c
      refine ⟨_, _, rfl, rfl, (Option.some.inj e).symm, c.1, ?_⟩
      have h := of_decide_eq_true (show decide _ = true from c.2)
      have e2 : (2 : Int) ^ 27 = 134217728 := by decide
      rw [e2]; exact h
    · cases e
  · cases e) fun i j W H => .int _
def rAddA : R2 := fun x y H Q => (∃ i j, x = .int i ∧ y = .int j ∧ Q (.int (i + j)) H) ∨ ((∃ i j, x = .str i ∧ y = .str j ∧ i.length + j.length ≤ sizeLine ∧ Q (.str (i ++ j)) H) ∨ rCat x y H Q)
theorem op_addA {X : Cx} : OpR X (binaryOp .Add) rAddA := OpR.or op_add (OpR.or op_add_str op_cat)
theorem od_add : OpD C rAddA dAdd := fun G δ σ H x y v w p Q E rx ry e q => by
  unfold dAdd at e
  split at e
  · cases e; cases rx; cases ry
    exact .inl ⟨_, _, rfl, rfl, atom E q (.int _)⟩
  · split at e
    · rename_i hl
      cases e; cases rx; cases ry
      exact .inr (.inl ⟨_, _, rfl, rfl, by rw [← line_eq]; exact hl, atom E q (.str _)⟩)
    · cases e
  · split at e
    · rename_i hl
      cases e
      cases rx with
      | lst n1 h1 r1 =>
        cases ry with
        | lst n2 h2 r2 =>
          have hz := hl
          rw [line_eq, ← r1.length, ← r2.length] at hz
          exact .inr (.inr ⟨_, _, _, _, rfl, rfl, h1, h2, hz, fun p hp => newl E q (r1.append r2) (by rw [List.length_append]; exact hz) hp⟩)
    · cases e
  · cases e
theorem RepL.rep {W : Addr → Prop} {H : Hp} {xs : List V} {ds : List D} (h : RepL C W H xs ds) : ∀ k : Nat, RepL C W H (List.replicate k xs).flatten (List.replicate k ds).flatten
  | 0 => .nil
  | k + 1 => by rw [List.replicate_succ, List.replicate_succ, List.flatten_cons, List.flatten_cons]; exact h.append (RepL.rep h k)
def rMulA : R2 := fun x y H Q => rI CMulX (fun i j => .int (i * j)) x y H Q ∨ rRep x y H Q
theorem op_mulA {X : Cx} : OpR X (binaryOp .Mult) rMulA := OpR.or op_mulX op_rep
theorem len_rep {α : Type} (xs : List α) (k : Nat) : ((List.replicate k xs).flatten).length = xs.length * k := by
  rw [List.length_flatten, List.map_replicate, List.sum_replicate_nat]; exact Nat.mul_comm _ _
theorem od_mul : OpD C rMulA dMul := fun G δ σ H x y v w p Q E rx ry e q => by
  unfold dMul at e
  split at e
  · split at e
    · rename_i c
      cases e; cases rx; cases ry
      exact .inl ⟨_, _, rfl, rfl, (show _ ≤ _ from of_decide_eq_true c), atom E q (.int _)⟩
    · cases e
  · split at e
    · rename_i c
      cases e; cases ry
      cases rx with
      | lst n1 h1 r1 =>
        have hz := c.2.2
        rw [line_eq, ← r1.length] at hz
        refine .inr ⟨_, _, _, rfl, rfl, h1, by have := c.1; omega, by have := c.2.1; omega, hz, fun p hp => ?_⟩
        exact newl E q (r1.rep _) (by rw [len_rep]; exact hz) hp
    · cases e
  · cases e
mutual
theorem Rep.dp {W : Addr → Prop} {H : Hp} : ∀ {v : V} {d : D}, Rep C W H v d → PyData.canLay0 d = true → Dp C.K H v d
  | _, _, .non, _ => .non
  | _, _, .bl b, _ => .bl b
  | _, _, .int i, _ => .int i
  | _, _, .str x, _ => .str x
  | _, _, .lst _ h t, z => .lst (SqL.of h) (RepL.dp t (by simpa [PyData.canLay0] using z))
  | _, _, .tup h t, z => .tup h.1 (RepL.dp t (by simpa [PyData.canLay0] using z))
  | _, _, .scr _ _, z => by simp [PyData.canLay0] at z
  | _, _, .tyb _, z => by simp [PyData.canLay0] at z
  | _, _, .tyo, z => by simp [PyData.canLay0] at z
  | _, _, .dct _ _, z => by simp [PyData.canLay0] at z
  | _, _, .dki _ _, z => by simp [PyData.canLay0] at z
  | _, _, .dkt _ _, z => by simp [PyData.canLay0] at z
  | _, _, .exc0 _, z => by simp [PyData.canLay0] at z
  | _, _, .exc1 _ _ _, z => by simp [PyData.canLay0] at z
theorem RepL.dp {W : Addr → Prop} {H : Hp} : ∀ {v : List V} {d : List D}, RepL C W H v d → PyData.canLayAll0 d = true → DpAll C.K H v d
  | _, _, .nil, _ => .nil
  | _, _, .cons r t, z => by
    have z' := Bool.and_eq_true_iff.mp (show (PyData.canLay0 _ && PyData.canLayAll0 _) = true by simpa [PyData.canLayAll0] using z)
    exact .cons (Rep.dp r z'.1) (RepL.dp t z'.2)
end
theorem Rep.dps {W : Addr → Prop} {H : Hp} {v : V} {d : D} (h : Rep C W H v d) (z : SeqAt.shaped d = true) : Dp C.K H v d := h.dp (SeqAt.canLay_of_shaped z)
theorem od_eq : OpD C (rEqD C.K) dEq := fun G δ σ H x y v w p Q E rx ry e q => by
  unfold dEq at e
  split at e
  · rename_i c
    rw [Bool.and_eq_true] at c
    cases e
    exact ⟨v, w, rx.dps c.1, ry.dps c.2, c.1, c.2, atom E q (.bl _)⟩
  · cases e
theorem od_ne : OpD C (rNeD C.K) dNe := fun G δ σ H x y v w p Q E rx ry e q => by
  unfold dNe at e
  split at e
  · rename_i c
    rw [Bool.and_eq_true] at c
    cases e
    exact ⟨v, w, rx.dps c.1, ry.dps c.2, c.1, c.2, atom E q (.bl _)⟩
  · cases e
theorem Rep.non_iff {W : Addr → Prop} {H : Hp} {v : V} {d : D} (h : Rep C W H v d) : decide (v = .non) = (match d with | .none => true | _ => false) := by
  cases h <;> rfl
theorem od_is : OpD C (fun x y H Q => y = .non ∧ Q (.bl (decide (x = .non))) H) dIs := fun G δ σ H x y v w p Q E rx ry e q => by
  unfold dIs at e
  split at e
  · cases e; cases ry; cases rx
    exact ⟨rfl, atom E q (.bl _)⟩
  · rename_i hn
    cases e; cases ry
    have z := rx.non_iff
    refine ⟨rfl, atom E q ?_⟩
    rw [z]
    cases v <;> first | exact .bl _ | exact absurd rfl hn | exact absurd rfl (hn · rfl)
  · cases e
theorem od_isN : OpD C (fun x y H Q => y = .non ∧ Q (.bl (!decide (x = .non))) H) dIsN := fun G δ σ H x y v w p Q E rx ry e q => by
  unfold dIsN at e
  split at e
  · cases e; cases ry; cases rx
    exact ⟨rfl, atom E q (.bl _)⟩
  · rename_i hn
    cases e; cases ry
    have z := rx.non_iff
    refine ⟨rfl, atom E q ?_⟩
    rw [z]
    cases v <;> first | exact .bl _ | exact absurd rfl hn | exact absurd rfl (hn · rfl)
  · cases e
end
end DL
namespace DL
open PySem PySem.Spec L2
open PyProof.Rows hiding St
/-- a value or nothing, at the end of a reading -/
def fin (x : Option (D × Bool)) (δ : Sl) : EV := match x with
  | some p => .ok p δ
  | none => .stk
def gBin (f : DOp) (ga gb : Sl → EV) : Sl → EV := fun δ => (ga δ).bind fun x δ1 => (gb δ1).bind fun y δ2 => fin (f x.1 y.1) δ2
def gChain (f f' : DOp) (ga gb gc : Sl → EV) : Sl → EV := fun δ => (ga δ).bind fun x δ1 => (gb δ1).bind fun y δ2 => match f x.1 y.1 with
  | some (.bool true, _) => (gc δ2).bind fun z δ3 => fin (f' y.1 z.1) δ3
  | some (.bool false, _) => .ok (.bool false, false) δ2
  | _ => .stk
def gIf (gt : Sl → R Sl Bool) (ga gb : Sl → EV) : Sl → EV := fun δ => (gt δ).bind fun b δ1 => if b = true then ga δ1 else gb δ1
/-- a value as a test -/
def gTv (ga : Sl → EV) : Sl → R Sl Bool := fun δ => (ga δ).bind fun x δ1 => match x.1 with
  | .bool b => .ok b δ1
  | _ => .stk
def gNotT (gt : Sl → R Sl Bool) : Sl → R Sl Bool := fun δ => (gt δ).bind fun b δ1 => .ok (!b) δ1
def gAndT (gt gu : Sl → R Sl Bool) : Sl → R Sl Bool := fun δ => (gt δ).bind fun b δ1 => if b = true then gu δ1 else .ok false δ1
def gOrT (gt gu : Sl → R Sl Bool) : Sl → R Sl Bool := fun δ => (gt δ).bind fun b δ1 => if b = true then .ok true δ1 else gu δ1
def gAndV (ga gb : Sl → EV) : Sl → EV := fun δ => (ga δ).bind fun x δ1 => match x.1 with
  | .bool true => gb δ1
  | .bool false => .ok (.bool false, false) δ1
  | _ => .stk
def gOrV (ga gb : Sl → EV) : Sl → EV := fun δ => (ga δ).bind fun x δ1 => match x.1 with
  | .bool true => .ok (.bool true, false) δ1
  | .bool false => gb δ1
  | _ => .stk
def gNotV (ga : Sl → EV) : Sl → EV := fun δ => (ga δ).bind fun x δ1 => match x.1 with
  | .bool b => .ok (.bool (!b), false) δ1
  | _ => .stk
def gaNil : Sl → R Sl (List D) := fun δ => .ok [] δ
def gaCons (ga : Sl → EV) (gr : Sl → R Sl (List D)) : Sl → R Sl (List D) := fun δ => (ga δ).bind fun x δ1 => (gr δ1).bind fun xs δ2 => .ok (x.1 :: xs) δ2
def gaStar (ga : Sl → EV) (gr : Sl → R Sl (List D)) : Sl → R Sl (List D) := fun δ => (ga δ).bind fun x δ1 => match x.1 with
  | .list ys => (gr δ1).bind fun xs δ2 => .ok (ys ++ xs) δ2
  | .tuple ys => (gr δ1).bind fun xs δ2 => .ok (ys ++ xs) δ2
  | _ => .stk
def gLst (ga : Sl → R Sl (List D)) : Sl → EV := fun δ => (ga δ).bind fun xs δ1 => if xs.length ≤ LINE then .ok (.list xs, true) δ1 else .stk
def gTup (ga : Sl → R Sl (List D)) : Sl → EV := fun δ => (ga δ).bind fun xs δ1 => if xs.length ≤ LINE then .ok (.tuple xs, false) δ1 else .stk
def gCall (f : List D → Option (D × Bool)) (ga : Sl → R Sl (List D)) : Sl → EV := fun δ => (ga δ).bind fun xs δ1 => fin (f xs) δ1
def slotD (i : Nat) (δ : Sl) : Option D := match δ[i]? with
  | some (some (_, d)) => some d
  | _ => none
/-- a slot's data and another value's, read behind the other -/
def gSlotBin (f : DOp) (i : Nat) (gb : Sl → EV) : Sl → EV := fun δ => match slotD i δ with
  | none => .stk
  | some _ => (gb δ).bind fun y δ1 => match slotD i δ1 with
    | some d => match f d y.1 with
      | some (e, false) => .ok (e, false) δ1
      | _ => .stk
    | none => .stk
def gBinSlot (f : DOp) (ga : Sl → EV) (i : Nat) : Sl → EV := fun δ => (ga δ).bind fun x δ1 => match slotD i δ1 with
  | some d => match f x.1 d with
    | some (e, false) => .ok (e, false) δ1
    | _ => .stk
  | none => .stk
section
variable {C : Ct} {W : WX} {G : Gh} {δ δ1 : Sl} {σ : St} {H H1 : Hp} {X : Cx} {a b c : Expr} {ga gb gc : Sl → EV} {gt gu : Sl → R Sl Bool} {pos : Pos} {Q : VK}
theorem fin_ok {x : Option (D × Bool)} {k : D × Bool → Sl → Hp → Prop} (p : Post C W G δ σ H k (fin x δ1)) : ∃ q, x = some q ∧ Post C W G δ σ H k (.ok q δ1) := by
  cases x with
  | none => exact p.elim
  | some q => exact ⟨q, rfl, p⟩
/-- the wish behind an expression, at its own moment -/
theorem now {x : D × Bool} {δ0 : Sl} {H0 : Hp} (E : ERel C G δ σ H) (p : Post C W G δ σ H (kE C G δ0 σ H0 Q) (.ok x δ)) : ∀ v, Rep C (WW G δ σ) H v x.1 → (x.2 = true → FreshN C G δ0 H0 δ σ H v x.1) → Q v H := fun v r f => p H E Ext.refl v r f
theorem tD_op {r : R2} {f : DOp} (od : OpD C r f) (σ : St) (H : Hp) (Q : VK) (h : tD C W G (gBin f ga gb) σ H Q) : tOp r (tD C W G ga) (tD C W G gb) σ H Q := by
  obtain ⟨δ, E, p⟩ := h
  refine ⟨δ, E, (Post.bind p).imp fun x δ1 H1 E1 X1 p1 v rv _ => ⟨δ1, E1, (Post.bind p1).imp fun y δ2 H2 E2 X2 p2 w rw _ => ?_⟩⟩
  obtain ⟨q, e, p3⟩ := fin_ok (p2.at (X1.trans X2))
  exact od G δ2 σ H2 v w x.1 y.1 q Q E2 (X2.rep rv) rw e fun u H' E' X' r' f' => p3 H' E' X' u r' f'
theorem pd_bin {op : Operator} {r : R2} {f : DOp} (ho : OpR X (binaryOp op) r) (od : OpD C r f) (ha : PE X a (tD C W G ga)) (hb : PE X b (tD C W G gb)) : PE X (.BinOp a op b pos) (tD C W G (gBin f ga gb)) :=
  PE.imp (pe_op ho ha hb) (tD_op od)
theorem pd_cmp {op : CmpOp} {r : R2} {f : DOp} (ho : OpR X (compareOp op) r) (od : OpD C r f) (ha : PE X a (tD C W G ga)) (hb : PE X b (tD C W G gb)) (hm : behindInMarks op b = false) : PE X (.Compare a [op] [b] pos) (tD C W G (gBin f ga gb)) :=
  PE.imp (pe_cmpR ho ha hb hm) (tD_op od)
/-- a test by a value -/
theorem tD_tv (σ : St) (H : Hp) (Q : Bool → Hp → Prop) (h : tT C W G (gTv ga) σ H Q) : tD C W G ga σ H fun x H' => ∃ k, x = .bl k ∧ Q k H' := by
  obtain ⟨δ, E, p⟩ := h
  refine ⟨δ, E, (Post.bind p).imp fun x δ1 H1 E1 X1 p1 v rv _ => ?_⟩
  obtain ⟨d, fr⟩ := x
  cases d <;> first | exact (show False from p1).elim | skip
  cases rv
  exact ⟨_, rfl, p1 H1 E1 Ext.refl⟩
theorem ptd_cmp {op : CmpOp} {r : R2} {f : DOp} (ho : OpR X (compareOp op) r) (od : OpD C r f) (ha : PE X a (tD C W G ga)) (hb : PE X b (tD C W G gb)) (hm : behindInMarks op b = false) : PT X (.Compare a [op] [b] pos) (tT C W G (gTv (gBin f ga gb))) :=
  PT.imp (pt_cmpR ho ha hb hm) fun σ H Q h => tD_op od σ H _ (tD_tv σ H Q h)
theorem ptd_val (h : PE X a (tD C W G ga)) (he : ∀ whole, isTrue a X.env whole = (do let v ← whole; standAt a.pos; holding [v] (truthy v)) := by intro _; rfl) : PT X a (tT C W G (gTv ga)) :=
  PT.imp (pt_val h he) fun σ H Q h => tD_tv σ H Q h
theorem ptd_not (h : PT X a (tT C W G gt)) : PT X (.UnaryOp .Not a pos) (tT C W G (gNotT gt)) := PT.imp (pt_not h) fun σ H Q ⟨δ, E, p⟩ =>
  ⟨δ, E, (Post.bind p).imp fun x δ1 H1 E1 X1 p1 => p1 H1 E1 Ext.refl⟩
theorem pwd_and1 (h : PT X a (tT C W G gt)) : PW X (.BoolOp .And [a] pos) (tT C W G gt) := pw_and1 h
theorem pwd_or1 (h : PT X a (tT C W G gt)) : PW X (.BoolOp .Or [a] pos) (tT C W G gt) := pw_or1 h
theorem PW.imp {e : Expr} {t t' : TT} (h : PW X e t) (hi : ∀ σ H Q, t' σ H Q → t σ H Q) : PW X e t' := ⟨fun w pins s σ H Q I q => h.run w pins s σ H Q I (hi σ H Q q)⟩
theorem pwd_and {rest : List Expr} (ha : PT X a (tT C W G gt)) (hb : PW X (.BoolOp .And (b :: rest) pos) (tT C W G gu)) : PW X (.BoolOp .And (a :: b :: rest) pos) (tT C W G (gAndT gt gu)) := PW.imp (pw_and ha hb) fun σ H Q ⟨δ, E, p⟩ =>
  ⟨δ, E, (Post.bind p).imp fun x δ1 H1 E1 X1 p1 => by
    cases x with
    | true => exact iteT (A := tT C W G gu σ H1 Q) (B := Q false H1) ⟨δ1, E1, p1⟩
    | false => exact iteF (A := tT C W G gu σ H1 Q) (B := Q false H1) (p1 H1 E1 Ext.refl)⟩
theorem pwd_or {rest : List Expr} (ha : PT X a (tT C W G gt)) (hb : PW X (.BoolOp .Or (b :: rest) pos) (tT C W G gu)) : PW X (.BoolOp .Or (a :: b :: rest) pos) (tT C W G (gOrT gt gu)) := PW.imp (pw_or ha hb) fun σ H Q ⟨δ, E, p⟩ =>
  ⟨δ, E, (Post.bind p).imp fun x δ1 H1 E1 X1 p1 => by
    cases x with
    | true => exact iteT (A := Q true H1) (B := tT C W G gu σ H1 Q) (p1 H1 E1 Ext.refl)
    | false => exact iteF (A := Q true H1) (B := tT C W G gu σ H1 Q) ⟨δ1, E1, p1⟩⟩
theorem pd_one {op} (h : PE X a (tD C W G ga)) : PE X (.BoolOp op [a] pos) (tD C W G ga) := pe_one h
theorem pd_and {rest : List Expr} (ha : PE X a (tD C W G ga)) (hb : PE X (.BoolOp .And (b :: rest) pos) (tD C W G gb)) : PE X (.BoolOp .And (a :: b :: rest) pos) (tD C W G (gAndV ga gb)) := PE.imp (pe_and ha hb) fun σ H Q ⟨δ, E, p⟩ =>
  ⟨δ, E, (Post.bind p).imp fun x δ1 H1 E1 X1 p1 v rv _ => by
    obtain ⟨d, fr⟩ := x
    cases d with
    | bool k =>
      cases rv
      cases k with
      | true => exact ⟨true, rfl, iteT (A := tD C W G gb σ H1 Q) (B := Q (.bl false) H1) ⟨δ1, E1, p1.at X1⟩⟩
      | false => exact ⟨false, rfl, iteF (A := tD C W G gb σ H1 Q) (B := Q (.bl false) H1) (now E1 p1 _ (.bl false) fun z => nomatch z)⟩
    | _ => exact (show False from p1).elim⟩
theorem pd_not (ha : PE X a (tD C W G ga)) : PE X (.UnaryOp .Not a pos) (tD C W G (gNotV ga)) := PE.imp (pe_not ha) fun σ H Q ⟨δ, E, p⟩ =>
  ⟨δ, E, (Post.bind p).imp fun x δ1 H1 E1 X1 p1 v rv _ => by
    obtain ⟨d, fr⟩ := x
    cases d <;> first | exact (show False from p1).elim | skip
    cases rv
    exact ⟨_, rfl, now E1 p1 _ (.bl _) fun z => nomatch z⟩⟩
theorem pd_if {t : Expr} (ht : PT X t (tT C W G gt)) (ha : PE X a (tD C W G ga)) (hb : PE X b (tD C W G gb)) : PE X (.IfExp t a b pos) (tD C W G (gIf gt ga gb)) := PE.imp (pe_ifExp ht ha hb) fun σ H Q ⟨δ, E, p⟩ =>
  ⟨δ, E, (Post.bind p).imp fun x δ1 H1 E1 X1 p1 => by
    cases x with
    | true => exact iteT (A := tD C W G ga σ H1 Q) (B := tD C W G gb σ H1 Q) ⟨δ1, E1, p1.at X1⟩
    | false => exact iteF (A := tD C W G ga σ H1 Q) (B := tD C W G gb σ H1 Q) ⟨δ1, E1, p1.at X1⟩⟩
theorem tD_chain {r r' : R2} {f f' : DOp} (od : OpD C r f) (od' : OpD C r' f') (σ : St) (H : Hp) (Q : VK) (h : tD C W G (gChain f f' ga gb gc) σ H Q) : tChain r r' (tD C W G ga) (tD C W G gb) (tD C W G gc) σ H Q := by
  obtain ⟨δ, E, p⟩ := h
  refine ⟨δ, E, (Post.bind p).imp fun x δ1 H1 E1 X1 p1 v rv _ => ⟨δ1, E1, (Post.bind p1).imp fun y δ2 H2 E2 X2 p2 w rw _ => ?_⟩⟩
  have p2' : Post C W G δ2 σ H2 (kE C G δ2 σ H2 Q) (match f x.1 y.1 with
    | some (.bool true, _) => (gc δ2).bind fun z δ3 => fin (f' y.1 z.1) δ3
    | some (.bool false, _) => .ok (.bool false, false) δ2
    | _ => .stk) := p2.at (X1.trans X2)
  split at p2'
  · rename_i fr e
    refine od G δ2 σ H2 v w x.1 y.1 _ _ E2 (X2.rep rv) rw e fun u H' E' X' r' f' => ?_
    cases r'
    refine ⟨true, rfl, iteT ⟨δ2, E', (Post.bind (p2'.later X')).imp fun z δ3 H3 E3 X3 p3 t rt _ => ?_⟩⟩
    obtain ⟨q, e, p4⟩ := fin_ok (p3.at (X'.trans X3))
    exact od' G δ3 σ H3 w t y.1 z.1 q Q E3 (X3.rep (X'.rep rw)) rt e fun u H' E' X' r' f' => p4 H' E' X' u r' f'
  · rename_i fr e
    refine od G δ2 σ H2 v w x.1 y.1 _ _ E2 (X2.rep rv) rw e fun u H' E' X' r' f' => ?_
    cases r'
    exact ⟨false, rfl, iteF (p2' H' E' X' _ (.bl false) fun z => nomatch z)⟩
  · exact p2'.elim
theorem pd_chain {op op' : CmpOp} {r r' : R2} {f f' : DOp} (ho : OpR X (compareOp op) r) (od : OpD C r f) (ho' : OpR X (compareOp op') r') (od' : OpD C r' f') (ha : PE X a (tD C W G ga)) (hb : PE X b (tD C W G gb)) (hc : PE X c (tD C W G gc))
    (hm : lastMarks [op, op'] [b, c] = false := by with_unfolding_all rfl) : PE X (.Compare a [op, op'] [b, c] pos) (tD C W G (gChain f f' ga gb gc)) := PE.imp (pe_chain ho ho' ha hb hc hm) (tD_chain od od')
variable {e : Expr} {es : List Expr} {gr gs : Sl → R Sl (List D)}
theorem pad_nil : PA X [] (tA C W G gaNil) := PA.imp pa_nil fun σ H Q ⟨δ, E, p⟩ => p H E Ext.refl [] .nil
theorem pad_cons (ha : PE X e (tD C W G ga)) (hr : PA X es (tA C W G gr)) (hs : starEach (e :: es) X.env = (false, eval e X.env) :: starEach es X.env := by rfl) : PA X (e :: es) (tA C W G (gaCons ga gr)) := PA.imp (pa_cons ha hr hs) fun σ H Q ⟨δ, E, p⟩ =>
  ⟨δ, E, (Post.bind p).imp fun x δ1 H1 E1 X1 p1 v rv _ => ⟨δ1, E1, (Post.bind p1).imp fun y δ2 H2 E2 X2 p2 vs rs => p2 H2 E2 Ext.refl (v :: vs) (.cons (X2.rep rv) rs)⟩⟩
theorem pad_star {p : Pos} (ha : PE X e (tD C W G ga)) (hr : PA X es (tA C W G gr)) (hs : starEach (.Starred e p :: es) X.env = (true, eval e X.env) :: starEach es X.env := by rfl) (hK : X.K = C.K := by rfl) : PA X (.Starred e p :: es) (tA C W G (gaStar ga gr)) := PA.imp (StX.pa_star ha hr hs) fun σ H Q ⟨δ, E, p⟩ =>
  ⟨δ, E, (Post.bind p).imp fun x δ1 H1 E1 X1 p1 v rv _ => by
    obtain ⟨d, fr⟩ := x
    cases d <;> first | exact (show False from p1).elim | skip
    · cases rv with
      | lst n h r => exact ⟨_, _, rfl, .inr (SqL.of h), δ1, E1, (Post.bind p1).imp fun y δ2 H2 E2 X2 p2 vs rs => p2 H2 E2 Ext.refl (_ ++ vs) ((X2.repL r).append rs)⟩
    · cases rv with
      | tup h r => exact ⟨_, _, rfl, .inl (hK ▸ h.1), δ1, E1, (Post.bind p1).imp fun y δ2 H2 E2 X2 p2 vs rs => p2 H2 E2 Ext.refl (_ ++ vs) ((X2.repL r).append rs)⟩⟩
theorem pd_lst (h : PA X es (tA C W G gr)) : PE X (.List es pos) (tD C W G (gLst gr)) := PE.imp (pe_lst h) fun σ H Q ⟨δ, E, p⟩ =>
  ⟨δ, E, (Post.bind p).imp fun x δ1 H1 E1 X1 p1 vs rs => by
    have p1' : Post C W G δ1 σ H1 (kE C G δ1 σ H1 Q) (if x.length ≤ LINE then .ok (.list x, true) δ1 else .stk) := p1.at X1
    split at p1'
    · rename_i hl
      rw [line_eq, ← rs.length] at hl
      exact ⟨hl, fun q hq => newl E1 (fun u H' E' X' r' f' => p1' H' E' X' u r' f') rs hl hq⟩
    · exact p1'.elim⟩
theorem pd_tup {x1} (h : PA X es (tA C W G gr)) : PE X (.Tuple es x1 pos) (tD C W G (gTup gr)) := PE.imp (pe_tup h) fun σ H Q ⟨δ, E, p⟩ =>
  ⟨δ, E, (Post.bind p).imp fun x δ1 H1 E1 X1 p1 vs rs => by
    have p1' : Post C W G δ1 σ H1 (kE C G δ1 σ H1 Q) (if x.length ≤ LINE then .ok (.tuple x, false) δ1 else .stk) := p1.at X1
    split at p1'
    · rename_i hl
      rw [line_eq, ← rs.length] at hl
      exact ⟨hl, fun q hq => newt E1 (fun u H' E' X' r' f' => p1' H' E' X' u r' f') rs hq⟩
    · exact p1'.elim⟩
def CallD (C : Ct) (r : List V → Hp → VK → Prop) (f : List D → Option (D × Bool)) : Prop := ∀ (G : Gh) (δ : Sl) (σ : St) (H : Hp) (xs : List V) (ds : List D) (p : D × Bool) (Q : VK), ERel C G δ σ H → RepL C (WW G δ σ) H xs ds → f ds = some p →
  (∀ u H', ERel C G δ σ H' → Ext δ σ H δ σ H' → Rep C (WW G δ σ) H' u p.1 → (p.2 = true → FreshN C G δ H δ σ H' u p.1) → Q u H') → r xs H Q
theorem tD_call {r : List V → Hp → VK → Prop} {f : List D → Option (D × Bool)} (cd : CallD C r f) (σ : St) (H : Hp) (Q : VK) (h : tD C W G (gCall f gr) σ H Q) : tCB r (tA C W G gr) σ H Q := by
  obtain ⟨δ, E, p⟩ := h
  refine ⟨δ, E, (Post.bind p).imp fun x δ1 H1 E1 X1 p1 vs rs => ?_⟩
  obtain ⟨q, e, p2⟩ := fin_ok (p1.at X1)
  exact cd G δ1 σ H1 vs x q Q E1 rs e fun u H' E' X' r' f' => p2 H' E' X' u r' f'
theorem pd_callB {x : Str} {id : String} {p : Pos} {r : List V → Hp → VK → Prop} {f : List D → Option (D × Bool)} (hc : CallR X (.builtin id) r) (cd : CallD C r f) (hg : Gl X x) (hm : X.mg x = none) (hv : bootBuiltins x = some (.builtin id)) (ha : PA X (e :: es) (tA C W G gr)) (hn : x ≠ "__name__" := by decide) (hdb : (x == ("__debug__" : Str)) = false := by decide)
    (he : starEach (e :: es) X.env = (false, eval e X.env) :: starEach es X.env := by rfl) (hpl : (backTo pos (starEach es X.env)).any (·.1) = false := by rfl) : PE X (.Call (.Name x p) (e :: es) [] pos) (tD C W G (gCall f gr)) := PE.imp (pe_callB hc hg hm hv ha hn hdb he hpl) (tD_call cd)
theorem pd_callTy {x : Str} {T : String} {p : Pos} {r : List V → Hp → VK → Prop} {f : List D → Option (D × Bool)} (hc : CallR X (.type T) r) (cd : CallD C r f) (hg : Gl X x) (hm : X.mg x = none) (hv : bootBuiltins x = some (.type T)) (ha : PA X (e :: es) (tA C W G gr)) (hn : x ≠ "__name__" := by decide) (hdb : (x == ("__debug__" : Str)) = false := by decide)
    (he : starEach (e :: es) X.env = (false, eval e X.env) :: starEach es X.env := by rfl) (hpl : (backTo pos (starEach es X.env)).any (·.1) = false := by rfl) : PE X (.Call (.Name x p) (e :: es) [] pos) (tD C W G (gCall f gr)) := PE.imp (pe_callTy hc hg hm hv ha hn hdb he hpl) (tD_call cd)
end
end DL
namespace DL
open PySem PySem.Spec L2
open PyProof.Rows hiding St
/-- the data, or a list that is a slot's own -/
def Bor (C : Ct) (W : Addr → Prop) (H : Hp) (v : V) (d : D) : Prop := Rep C W H v d ∨ ∃ a xs ds, v = .ref a ∧ d = .list ds ∧ H a = some (.lst xs) ∧ RepL C W H xs ds
def BopL (C : Ct) (r : R2) (f : DOp) : Prop := ∀ (G : Gh) (δ : Sl) (σ : St) (H : Hp) (x y : V) (v w e : D) (Q : VK), ERel C G δ σ H → Bor C (WW G δ σ) H x v → Rep C (WW G δ σ) H y w → f v w = some (e, false) →
  (∀ u, Rep C (WW G δ σ) H u e → Q u H) → r x y H Q
def BopR (C : Ct) (r : R2) (f : DOp) : Prop := ∀ (G : Gh) (δ : Sl) (σ : St) (H : Hp) (x y : V) (v w e : D) (Q : VK), ERel C G δ σ H → Rep C (WW G δ σ) H x v → Bor C (WW G δ σ) H y w → f v w = some (e, false) →
  (∀ u, Rep C (WW G δ σ) H u e → Q u H) → r x y H Q
section
variable {C : Ct} {W : WX} {G : Gh} {δ δ1 : Sl} {σ : St} {H H1 : Hp} {X : Cx} {a b c e : Expr} {es : List Expr} {ga gb gc : Sl → EV} {gr : Sl → R Sl (List D)} {pos : Pos} {Q : VK}
theorem ERel.slot (E : ERel C G δ σ H) {i : Nat} {d : D} (h : slotD i δ = some d) : ∃ v, σ[i]? = some (some v) ∧ Bor C (WW G δ σ) H v d := by
  unfold slotD at h
  split at h
  · rename_i m d' e
    cases h
    cases m with
    | false =>
      obtain ⟨v, h1, h2⟩ := E.sh i d e
      exact ⟨v, h1, .inl h2⟩
    | true =>
      obtain ⟨a, xs, ds, h1, h2, h3, h4, _⟩ := E.ow i d e
      exact ⟨_, h1, .inr ⟨a, xs, ds, rfl, h2, h3, h4⟩⟩
  · cases h
theorem tD_slotBin {r : R2} {f : DOp} {i : Nat} (od : BopL C r f) (σ : St) (H : Hp) (Q : VK) (h : tD C W G (gSlotBin f i gb) σ H Q) : tOp r (tVar i) (tD C W G gb) σ H Q := by
  obtain ⟨δ, E, p⟩ := h
  unfold gSlotBin at p
  split at p
  · exact p.elim
  · rename_i d0 h0
    obtain ⟨v, hv, _⟩ := E.slot h0
    refine ⟨v, hv, δ, E, (Post.bind p).imp fun y δ1 H1 E1 X1 p1 w rw _ => ?_⟩
    split at p1
    · rename_i d1 h1
      obtain ⟨v', hv', rb⟩ := E1.slot h1
      rw [hv] at hv'; cases hv'
      split at p1
      · rename_i e he
        exact od G δ1 σ H1 v w d1 y.1 e Q E1 rb rw he fun u ru => now E1 p1 u ru fun z => nomatch z
      · exact p1.elim
    · exact p1.elim
def dIx : DOp
  | .list xs, .int i => (atI xs i).map (·, false)
  | .tuple xs, .int i => (atI xs i).map (·, false)
  | .dict [(.bool true, .list xs)], .int i => (atI xs i).map (·, false)
  | .str z, .int i => if z.length ≤ LINE then (atI z.cps.toList i).map fun c => (.str ⟨#[c]⟩, false) else none
  | _, _ => none
theorem RepL.atI {W : Addr → Prop} {xs : List V} {ds : List D} {i : Int} {d : D} (r : RepL C W H xs ds) (h : atI ds i = some d) : ∃ v, L2.atI xs i = some v ∧ Rep C W H v d := by
  unfold L2.atI at h ⊢
  rw [r.length]
  cases e : ixN ds.length i with
  | none => rw [e] at h; cases h
  | some j =>
    rw [e] at h
    exact r.get (show ds[j]? = some d from h)
theorem opt_map {α : Type} {x : Option α} {f : α → D × Bool} {q : D × Bool} (h : x.map f = some q) : ∃ a, x = some a ∧ q = f a := by
  cases x with
  | none => cases h
  | some a => exact ⟨a, rfl, (Option.some.inj h).symm⟩
theorem bo_ix : BopL C (rIx C.K) dIx := fun G δ σ H x y v w e Q E rx ry he q => by
  rcases rx with rx | ⟨a, xs, ds, rfl, rfl, h, rl⟩
  · unfold dIx at he
    split at he
    · obtain ⟨d, h1, h2⟩ := opt_map he
      cases h2; cases ry
      cases rx with
      | lst n h r =>
        obtain ⟨u, h3, h4⟩ := r.atI h1
        exact .inl ⟨_, _, _, u, rfl, rfl, SqL.of h, h3, q u h4⟩
    · obtain ⟨d, h1, h2⟩ := opt_map he
      cases h2; cases ry
      cases rx with
      | tup h r =>
        obtain ⟨u, h3, h4⟩ := r.atI h1
        exact .inr (.inl ⟨_, _, _, u, rfl, rfl, h.1, h3, q u h4⟩)
    · obtain ⟨d, h1, h2⟩ := opt_map he
      cases h2; cases ry
      cases rx with
      | scr h r =>
        obtain ⟨u, h3, h4⟩ := r.atI h1
        exact .inl ⟨_, _, _, u, rfl, rfl, h.sq, h3, q u h4⟩
    · split at he
      · rename_i hz
        obtain ⟨d, h1, h2⟩ := opt_map he
        cases h2; cases ry; cases rx
        exact .inr (.inr ⟨_, _, _, rfl, rfl, by rw [← line_eq]; exact hz, h1, q _ (.str _)⟩)
      · cases he
    · cases he
  · cases w <;> first | cases he | skip
    obtain ⟨d, h1, h2⟩ := opt_map he
    cases h2; cases ry
    obtain ⟨u, h3, h4⟩ := rl.atI h1
    exact .inl ⟨_, _, _, u, rfl, rfl, SqL.of h, h3, q u h4⟩
theorem BopL.od {r : R2} {f : DOp} (h : BopL C r f) (hf : ∀ v w p, f v w = some p → p.2 = false) : OpD C r f := fun G δ σ H x y v w p Q E rx ry he q => by
  obtain ⟨e, fr⟩ := p
  have z : fr = false := hf v w _ he
  subst z
  exact h G δ σ H x y v w e Q E (.inl rx) ry he fun u ru => q u H E Ext.refl ru fun z => nomatch z
theorem map_fr {α : Type} {x : Option α} {f : α → D} {p : D × Bool} (h : x.map (fun a => (f a, false)) = some p) : p.2 = false := by
  obtain ⟨a, _, rfl⟩ := opt_map h
  rfl
theorem dIx_fr (v w : D) (p : D × Bool) (h : dIx v w = some p) : p.2 = false := by
  unfold dIx at h
  split at h
  · exact map_fr h
  · exact map_fr h
  · exact map_fr h
  · split at h
    · exact map_fr (f := fun c => .str ⟨#[c]⟩) h
    · cases h
  · cases h
theorem od_ix : OpD C (rIx C.K) dIx := bo_ix.od dIx_fr
theorem pd_ix (ha : PE X a (tD C W G ga)) (hb : PE X b (tD C W G gb)) (hs : PlainIx b := by exact fun _ _ => rfl) (hK : X.K = C.K := by rfl) : PE X (.Subscript a b pos) (tD C W G (gBin dIx ga gb)) :=
  PE.imp (pe_ix (r := rIx C.K) (hK ▸ ix_seq) ha hb hs) (tD_op od_ix)
theorem pd_ixV {i : Nat} (ha : PE X a (tVar i)) (hb : PE X b (tD C W G gb)) (hs : PlainIx b := by exact fun _ _ => rfl) (hK : X.K = C.K := by rfl) : PE X (.Subscript a b pos) (tD C W G (gSlotBin dIx i gb)) :=
  PE.imp (pe_ix (r := rIx C.K) (hK ▸ ix_seq) ha hb hs) (tD_slotBin bo_ix)
theorem flat_of {W : Addr → Prop} {v : V} {d : D} (r : Rep C W H v d) (h : flatD d = true) : flatV v = true := by
  cases r <;> first | rfl | (exact absurd h (by simp [flatD]))
theorem flats_of {W : Addr → Prop} : ∀ {vs : List V} {ds : List D}, RepL C W H vs ds → ds.all flatD = true → vs.all flatV = true
  | _, _, .nil, _ => rfl
  | _, _, .cons r t, h => by
    rw [List.all_cons, Bool.and_eq_true] at h ⊢
    exact ⟨flat_of r h.1, flats_of t h.2⟩
theorem eqV_of {W : Addr → Prop} {v w : V} {d e : D} (r : Rep C W H v d) (s : Rep C W H w e) (h : flatD d = true) (h' : flatD e = true) : eqV v w = PyData.eqv d e := by
  cases r <;> first | (simp [flatD] at h; done) | skip
  all_goals (cases s <;> first | (simp [flatD] at h'; done) | skip)
  all_goals first
    | rfl
    | simp [eqV, PyData.eqv]
theorem inV_of {W : Addr → Prop} {v : V} {d : D} (r : Rep C W H v d) (h : flatD d = true) : ∀ {vs : List V} {ds : List D}, RepL C W H vs ds → ds.all flatD = true → inV v vs = inD d ds
  | _, _, .nil, _ => rfl
  | _, _, .cons q t, z => by
    rw [List.all_cons, Bool.and_eq_true] at z
    have ih := inV_of r h t z.2
    unfold inV inD at ih ⊢
    rw [List.any_cons, List.any_cons, ih, eqV_of q r z.1 h]
def rNotInT (K : PySem.W.Frag) : R2 := fun x y H Q => ∃ d ds, Dp K H x d ∧ Dp K H y (.tuple ds) ∧ SeqAt.shaped d = true ∧ SeqAt.shaped (.tuple ds) = true ∧ Q (.bl (!ds.any fun z => PyData.eqv z d)) H
theorem op_notInT (hu : X.A.units + 65 < cLine) : OpR X (compareOp .NotIn) (rNotInT X.K) := by
  intro pins s σ H x y v u Q I rx ry h
  obtain ⟨d, ds, hd, he, sd, se, q⟩ := h
  obtain ⟨as, r1⟩ := Dp.reads I d x v hd rx
  obtain ⟨bs, r2⟩ := Dp.reads I (.tuple ds) y u he ry
  exact SeqAt.notIn_tuple_reads r2 r1 (SeqAt.canLay_of_shaped se) (SeqAt.canLay_of_shaped sd) (room_in_shaped sd hu) ⟨.bl _, H, I, rfl, q⟩
def rNotInA (K : PySem.W.Frag) : R2 := fun x y H Q => rIn K true x y H Q ∨ (rNotInD K x y H Q ∨ (rNotInT K x y H Q ∨ ∃ i j, x = .str i ∧ y = .str j ∧ Q (.bl (!(!(Builtin.Str.occurrences j i 0 j.length 1).isEmpty))) H))
theorem op_notInA (hu : X.A.units + 65 < cLine) : OpR X (compareOp .NotIn) (rNotInA X.K) := OpR.or op_notIn_seq (OpR.or (op_notInD hu) (OpR.or (op_notInT hu) op_notin_str))
theorem Bor.lst {W : Addr → Prop} {y : V} {ds : List D} (h : Bor C W H y (.list ds)) : ∃ a xs, y = .ref a ∧ H a = some (.lst xs) ∧ RepL C W H xs ds := by
  rcases h with h | ⟨a, xs, es, rfl, e, h, r⟩
  · cases h with
    | lst _ h r => exact ⟨_, _, rfl, h, r⟩
  · cases e
    exact ⟨a, xs, rfl, h, r⟩
theorem Bor.dps {W : Addr → Prop} {y : V} {d : D} (h : Bor C W H y d) (z : SeqAt.shaped d = true) : Dp C.K H y d := by
  rcases h with h | ⟨a, xs, es, rfl, rfl, h, r⟩
  · exact h.dps z
  · exact .lst (SqL.of h) (RepL.dp r (by have := SeqAt.canLay_of_shaped z; simpa [PyData.canLay0] using this))
theorem bo_notIn : BopR C (rNotInA C.K) dNotIn := fun G δ σ H x y v w e Q E rx ry he q => by
  unfold dNotIn at he
  split at he
  · obtain ⟨a, xs, rfl, h, rl⟩ := ry.lst
    split at he
    · rename_i c
      rw [Bool.and_eq_true] at c
      cases he
      exact .inl ⟨_, _, rfl, .inl (SqL.of h), flat_of rx c.1, flats_of rl c.2, by rw [inV_of rx c.1 rl c.2]; exact q _ (.bl _)⟩
    · split at he
      · rename_i c
        rw [Bool.and_eq_true] at c
        cases he
        exact .inr (.inl ⟨v, _, rx.dps c.1, ry.dps c.2, c.1, c.2, q _ (.bl _)⟩)
      · cases he
  · split at he
    · rename_i c
      rw [Bool.and_eq_true] at c
      cases he
      rcases ry with ry | ⟨_, _, _, _, z, _⟩
      · cases ry with
        | tup h r => exact .inl ⟨_, _, rfl, .inr h.1, flat_of rx c.1, flats_of r c.2, by rw [inV_of rx c.1 r c.2]; exact q _ (.bl _)⟩
      · cases z
    · split at he
      · rename_i c
        rw [Bool.and_eq_true] at c
        cases he
        exact .inr (.inr (.inl ⟨v, _, rx.dps c.1, ry.dps c.2, c.1, c.2, q _ (.bl _)⟩))
      · cases he
  · cases he
    rcases ry with ry | ⟨_, _, _, _, z, _⟩
    · cases ry; cases rx
      exact .inr (.inr (.inr ⟨_, _, rfl, rfl, q _ (.bl _)⟩))
    · cases z
  · cases he
theorem BopR.od {r : R2} {f : DOp} (h : BopR C r f) (hf : ∀ v w p, f v w = some p → p.2 = false) : OpD C r f := fun G δ σ H x y v w p Q E rx ry he q => by
  obtain ⟨e, fr⟩ := p
  have z : fr = false := hf v w _ he
  subst z
  exact h G δ σ H x y v w e Q E rx (.inl ry) he fun u ru => q u H E Ext.refl ru fun z => nomatch z
theorem dNotIn_fr (v w : D) (p : D × Bool) (h : dNotIn v w = some p) : p.2 = false := by
  unfold dNotIn at h
  split at h
  · split at h
    · cases h; rfl
    · split at h
      · cases h; rfl
      · cases h
  · split at h
    · cases h; rfl
    · split at h
      · cases h; rfl
      · cases h
  · cases h; rfl
  · cases h
theorem od_notIn : OpD C (rNotInA C.K) dNotIn := bo_notIn.od dNotIn_fr
def gNoPart : Sl → R Sl (Option Int) := fun δ => .ok none δ
def gPart (ga : Sl → EV) : Sl → R Sl (Option Int) := fun δ => (ga δ).bind fun x δ1 => match x.1 with
  | .int i => .ok (some i) δ1
  | _ => .stk
def cutD (xs : List D) (lo hi : Option Int) : List D := (xs.drop (HT.sIx xs.length 0 lo)).take (HT.sIx xs.length xs.length hi - HT.sIx xs.length 0 lo)
def dSlice (x : D) (lo hi : Option Int) : Option (D × Bool) := match x with
  | .list xs => some (.list (cutD xs lo hi), true)
  | .dict [(.bool true, .list xs)] => if xs.length ≤ LINE then some (.list (cutD xs lo hi), true) else none
  | .str z => if z.length ≤ LINE then some (.str (cutS z lo hi), false) else none
  | _ => none
def gSlice (ga : Sl → EV) (gl gh : Sl → R Sl (Option Int)) : Sl → EV := fun δ => (ga δ).bind fun x δ1 => (gl δ1).bind fun l δ2 => (gh δ2).bind fun h δ3 => fin (dSlice x.1 l h) δ3
def tO (C : Ct) (W : WX) (G : Gh) (g : Sl → R Sl (Option Int)) : TO := fun σ H Q => ∃ δ, ERel C G δ σ H ∧ Post C W G δ σ H (fun o _ H' => Q o H') (g δ)
theorem PO.imp {e : Option Expr} {t t' : TO} (h : PO X e t) (hi : ∀ σ H Q, t' σ H Q → t σ H Q) : PO X e t' := ⟨fun pins s σ H Q I q => h.run pins s σ H Q I (hi σ H Q q)⟩
theorem pod_none : PO X none (tO C W G gNoPart) := PO.imp po_none fun σ H Q ⟨δ, E, p⟩ => p H E Ext.refl
theorem pod_some (ha : PE X a (tD C W G ga)) : PO X (some a) (tO C W G (gPart ga)) := PO.imp (po_some ha) fun σ H Q ⟨δ, E, p⟩ =>
  ⟨δ, E, (Post.bind p).imp fun x δ1 H1 E1 X1 p1 v rv _ => by
    obtain ⟨d, fr⟩ := x
    cases d <;> first | exact (show False from p1).elim | skip
    cases rv
    exact ⟨_, rfl, p1 H1 E1 Ext.refl⟩⟩
theorem cut_rep {W : Addr → Prop} {xs : List V} {ds : List D} {lo hi : Option Int} (r : RepL C W H xs ds) : RepL C W H (cutV xs lo hi) (cutD ds lo hi) := by
  unfold cutV cutD
  rw [r.length]
  exact (r.drop _).take _
def rSlA (K : PySem.W.Frag) : V → Option Int → Option Int → Hp → VK → Prop := fun x lo hi H Q => rSlL K x lo hi H Q ∨ rSlS x lo hi H Q
theorem sl_A : SlR X (rSlA X.K) := SlR.or sl_list sl_str
theorem pd_slice {lo hi : Option Expr} {p2 : Pos} {gl gh : Sl → R Sl (Option Int)} (ha : PE X a (tD C W G ga)) (hl : PO X lo (tO C W G gl)) (hh : PO X hi (tO C W G gh)) (hK : X.K = C.K := by rfl) : PE X (.Subscript a (.Slice lo hi none p2) pos) (tD C W G (gSlice ga gl gh)) :=
  PE.imp (pe_slice (r := rSlA C.K) (hK ▸ sl_A) ha hl hh) fun σ H Q ⟨δ, E, p⟩ => ⟨δ, E, (Post.bind p).imp fun x δ1 H1 E1 X1 p1 v rv _ => ⟨δ1, E1, (Post.bind p1).imp fun l δ2 H2 E2 X2 p2 => ⟨δ2, E2, (Post.bind p2).imp fun h δ3 H3 E3 X3 p3 => by
    obtain ⟨q, e, p4⟩ := fin_ok (p3.at ((X1.trans X2).trans X3))
    have rv3 := X3.rep (X2.rep rv)
    have k := fun u H' E' X' r' f' => p4 H' E' X' u r' f'
    obtain ⟨d, fr⟩ := x
    unfold dSlice at e
    split at e
    · rename_i ds hd
      cases hd
      cases e
      cases rv3 with
      | lst n hh r => exact .inl ⟨_, _, rfl, SqL.of hh, fun q hq => newl E3 k (cut_rep r) (Nat.le_trans (cutV_length _ _ _) (E3.sz _ _ hh)) hq⟩
    · rename_i ds hd
      cases hd
      split at e
      · rename_i hz
        cases e
        cases rv3 with
        | scr hh r => exact .inl ⟨_, _, rfl, hh.sq, fun q hq => newl E3 k (cut_rep r) (Nat.le_trans (cutV_length _ _ _) (by rw [← line_eq, r.length]; exact hz)) hq⟩
      · cases e
    · rename_i z hd
      cases hd
      split at e
      · rename_i hz
        cases e
        cases rv3
        exact .inr ⟨_, rfl, by rw [← line_eq]; exact hz, atom E3 k (.str _)⟩
      · cases e
    · cases e⟩⟩⟩
def dLen : List D → Option (D × Bool)
  | [.list xs] => some (.int xs.length, false)
  | [.tuple xs] => some (.int xs.length, false)
  | [.dict [(.bool true, .list xs)]] => some (.int xs.length, false)
  | [.str z] => if z.length ≤ LINE then some (.int z.length, false) else none
  | _ => none
theorem RepL.one_inv {W : Addr → Prop} {xs : List V} {d : D} (h : RepL C W H xs [d]) : ∃ v, xs = [v] ∧ Rep C W H v d := by
  cases h with
  | cons r t => cases t; exact ⟨_, rfl, r⟩
theorem RepL.two_inv {W : Addr → Prop} {xs : List V} {d e : D} (h : RepL C W H xs [d, e]) : ∃ v w, xs = [v, w] ∧ Rep C W H v d ∧ Rep C W H w e := by
  cases h with
  | cons r t =>
    obtain ⟨w, rfl, r'⟩ := t.one_inv
    exact ⟨_, w, rfl, r, r'⟩
theorem len_bor {W : Addr → Prop} {v d e : D} {x : V} (h : Bor C W H x v) (he : dLen [v] = some (e, false)) : ∃ n : Nat, LenV C.K x H n ∧ e = .int n := by
  rcases h with rx | ⟨a, xs, ds, rfl, rfl, h, rl⟩
  · unfold dLen at he
    split at he
    · rename_i xs q
      cases q; cases he
      cases rx with
      | lst n h r => exact ⟨_, .inl ⟨_, SqL.of h, rfl⟩, by rw [r.length]⟩
    · rename_i xs q
      cases q; cases he
      cases rx with
      | tup h r => exact ⟨_, .inr ⟨_, h.1, rfl⟩, by rw [r.length]⟩
    · rename_i xs q
      cases q; cases he
      cases rx with
      | scr h r => exact ⟨_, .inl ⟨_, h.sq, rfl⟩, by rw [r.length]⟩
    · rename_i z q
      cases q
      split at he
      · rename_i hz
        cases he; cases rx
        exact ⟨_, ⟨by rw [← line_eq]; exact hz, rfl⟩, rfl⟩
      · cases he
    · cases he
  · cases he
    exact ⟨_, .inl ⟨_, SqL.of h, rfl⟩, by rw [rl.length]⟩
theorem dLen_fr {v : D} {p : D × Bool} (h : dLen [v] = some p) : p.2 = false := by
  unfold dLen at h
  split at h
  · cases h; rfl
  · cases h; rfl
  · cases h; rfl
  · split at h
    · cases h; rfl
    · cases h
  · cases h
theorem cd_len : CallD C (fun xs H Q => ∃ x n, xs = [x] ∧ LenV C.K x H n ∧ Q (.int n) H) dLen := fun G δ σ H xs ds p Q E r e q => by
  match ds with
  | [d] =>
    obtain ⟨v, rfl, rv⟩ := r.one_inv
    obtain ⟨d', fr⟩ := p
    cases (show fr = false from dLen_fr e)
    obtain ⟨n, h1, rfl⟩ := len_bor (d := d) (.inl rv) e
    exact ⟨v, n, rfl, h1, atom E q (.int _)⟩
  | [] => cases e
  | _ :: _ :: _ => simp [dLen] at e
/-- len(name) -/
def gLenV (i : Nat) : Sl → EV := fun δ => match slotD i δ with
  | some d => match dLen [d] with
    | some (e, false) => .ok (e, false) δ
    | _ => .stk
  | none => .stk
theorem pd_lenV {i : Nat} {p : Pos} (hc : CallR X (.builtin "len") (fun xs H Q => ∃ x n, xs = [x] ∧ LenV C.K x H n ∧ Q (.int n) H)) (hg : Gl X "len") (hm : X.mg "len" = none) (ha : PE X e (tVar i))
    (he : starEach (e :: []) X.env = (false, eval e X.env) :: starEach [] X.env := by rfl) : PE X (.Call (.Name "len" p) [e] [] pos) (tD C W G (gLenV i)) :=
  PE.imp (pe_callB hc hg hm boot_len (pa_cons ha pa_nil he) (by decide) (by decide) he rfl) fun σ H Q ⟨δ, E, p⟩ => by
    unfold gLenV at p
    split at p
    · rename_i d hd
      obtain ⟨v, hv, rb⟩ := E.slot hd
      split at p
      · rename_i e' he'
        obtain ⟨n, h1, rfl⟩ := len_bor (d := d) rb he'
        exact ⟨v, hv, v, n, rfl, h1, now E p _ (.int _) fun z => nomatch z⟩
      · exact p.elim
    · exact p.elim
def dInt : List D → Option (D × Bool)
  | [.int i] => some (.int i, false)
  | [.bool k] => some (.int (if k then 1 else 0), false)
  | _ => none
theorem cd_int : CallD C (fun xs H Q => (∃ i, xs = [.int i] ∧ Q (.int i) H) ∨ ∃ k, xs = [.bl k] ∧ Q (.int (if k then 1 else 0)) H) dInt := fun G δ σ H xs ds p Q E r e q => by
  unfold dInt at e
  split at e
  · cases e
    obtain ⟨v, rfl, rv⟩ := r.one_inv
    cases rv
    exact .inl ⟨_, rfl, atom E q (.int _)⟩
  · cases e
    obtain ⟨v, rfl, rv⟩ := r.one_inv
    cases rv
    exact .inr ⟨_, rfl, atom E q (.int _)⟩
  · cases e
def dMax2 : List D → Option (D × Bool)
  | [.int i, .int j] => some (.int (if j > i then j else i), false)
  | _ => none
def dMin2 : List D → Option (D × Bool)
  | [.int i, .int j] => some (.int (if j < i then j else i), false)
  | _ => none
theorem cd_max2 : CallD C (fun xs H Q => ∃ i j, xs = [.int i, .int j] ∧ Q (.int (if j > i then j else i)) H) dMax2 := fun G δ σ H xs ds p Q E r e q => by
  unfold dMax2 at e
  split at e
  · cases e
    obtain ⟨v, w, rfl, rv, rw⟩ := r.two_inv
    cases rv; cases rw
    exact ⟨_, _, rfl, atom E q (.int _)⟩
  · cases e
theorem cd_min2 : CallD C (fun xs H Q => ∃ i j, xs = [.int i, .int j] ∧ Q (.int (if j < i then j else i)) H) dMin2 := fun G δ σ H xs ds p Q E r e q => by
  unfold dMin2 at e
  split at e
  · cases e
    obtain ⟨v, w, rfl, rv, rw⟩ := r.two_inv
    cases rv; cases rw
    exact ⟨_, _, rfl, atom E q (.int _)⟩
  · cases e
def boolsD : List D → Option (List Bool)
  | [] => some []
  | .bool i :: r => (boolsD r).map (i :: ·)
  | _ :: _ => none
theorem bools_of {W : Addr → Prop} : ∀ {vs : List V} {ds : List D} {ns : List Bool}, RepL C W H vs ds → boolsD ds = some ns → vs = ns.map V.bl
  | _, _, _, .nil, e => by cases e; rfl
  | _, _, _, .cons r t, e => by
    cases r <;> first | cases e | skip
    rename_i i
    unfold boolsD at e
    cases q : boolsD _ with
    | none => rw [q] at e; cases e
    | some ms =>
      rw [q] at e
      cases e
      rw [List.map_cons, bools_of t q]
def dAll : List D → Option (D × Bool)
  | [.list xs] => (boolsD xs).map fun ns => (.bool (ns.all id), false)
  | _ => none
theorem cd_all : CallD C (rAll C.K) dAll := fun G δ σ H xs ds p Q E r e q => by
  unfold dAll at e
  split at e
  · obtain ⟨v, rfl, rv⟩ := r.one_inv
    obtain ⟨ns, h1, rfl⟩ := opt_map e
    cases rv with
    | lst n h rl =>
      rw [bools_of rl h1] at h
      exact ⟨_, ns, rfl, SqL.of h, atom E q (.bl _)⟩
  · cases e
/-- isinstance of a built-in type -/
def tyCode : D → Option Nat
  | .int _ => some 0
  | .bool _ => some 1
  | .str _ => some 2
  | .tuple _ => some 3
  | .list _ => some 4
  | .none => some 6
  | .dict [] => some 7
  | _ => none
def tyNm : List String := ["int", "bool", "str", "tuple", "list", "ValueError", "NoneType", "dict"]
def isTab (a b : Nat) : Bool := a == b || (a == 1 && b == 0)
theorem isTab_ok : ∀ a, a < 8 → ∀ b, b < 5 → ∀ n m, tyNm[a]? = some n → tyNames[b]? = some m → PySem.W.kitOne C.K (.type n) (.type m) = some (isTab a b) := by
  have h : (List.range 8).all (fun a => (List.range 5).all fun b => kitB (tyNm.getD a "") (tyNames.getD b "") == some (isTab a b)) = true := by decide +kernel
  intro a ha b hb n m e1 e2
  have h1 := List.all_eq_true.mp h a (List.mem_range.mpr ha)
  have h2 := List.all_eq_true.mp h1 b (List.mem_range.mpr hb)
  have e3 : tyNm.getD a "" = n := by rw [List.getD_eq_getElem?_getD, e1]; rfl
  have e4 : tyNames.getD b "" = m := by rw [List.getD_eq_getElem?_getD, e2]; rfl
  rw [e3, e4] at h2
  exact kit_ty (by simpa using h2)
theorem ty_of {W : Addr → Prop} {v : V} {d : D} {a : Nat} (r : Rep C W H v d) (h : tyCode d = some a) : a < 8 ∧ ∃ n, tyNm[a]? = some n ∧ TyX C.K H v (.type n) := by
  cases r with
  | non => cases h; exact ⟨by decide, _, rfl, .base .non⟩
  | bl b => cases h; exact ⟨by decide, _, rfl, .base (.bl b)⟩
  | int b => cases h; exact ⟨by decide, _, rfl, .base (.int b)⟩
  | str b => cases h; exact ⟨by decide, _, rfl, .base (.str b)⟩
  | lst n h1 _ => cases h; exact ⟨by decide, _, rfl, .base (.lst h1)⟩
  | tup h1 _ =>
    cases h
    refine ⟨by decide, _, rfl, ?_⟩
    rcases h1.1 with (h1 | ⟨o, h1⟩) | ⟨o, its, n, h1, h2, _⟩
    · exact .base (.tup h1)
    · exact .fTuple h1
    · exact .kTuple h1 h2
  | dct _ h1 => cases h; exact ⟨by decide, _, rfl, .base (.dK h1)⟩
  | scr _ _ => cases h
  | tyb _ => cases h
  | tyo => cases h
  | dki _ _ => cases h
  | dkt _ _ => cases h
  | exc0 _ => cases h
  | exc1 _ _ _ => cases h
  | hdl _ _ => cases h
  | opq => cases h
theorem ty_inv {W : Addr → Prop} {w : V} {d : D} (h : Rep C W H w d) : ∀ k : Int, d = .dict [(.bool false, .int k)] → k < 0 → ∃ nn kk, w = .ty nn ∧ tyNames[kk]? = some nn ∧ k = -((kk : Nat) : Int) - 1 := by
  cases h <;> intro k e hk <;> first
    | (cases e; done)
    | (cases e; exact ⟨_, _, rfl, by assumption, rfl⟩)
    | (cases e; exact absurd hk (by omega))
def dIsi : List D → Option (D × Bool)
  | [d, .dict [(.bool false, .int k)]] => if k < 0 ∧ -6 < k then (tyCode d).map fun a => (.bool (isTab a (-k - 1).toNat), false) else none
  | _ => none
theorem cd_isi : CallD C (rIsi C.K) dIsi := fun G δ σ H xs ds p Q E r e q => by
  unfold dIsi at e
  split at e
  · rename_i d k
    split at e
    · rename_i hk
      obtain ⟨a, h1, rfl⟩ := opt_map e
      obtain ⟨v, w, rfl, rv, rw⟩ := r.two_inv
      obtain ⟨ha, n, e1, ty⟩ := ty_of rv h1
      obtain ⟨nn, kk, rfl, hn, hz⟩ := ty_inv rw k rfl hk.1
      have hb : (-k - 1).toNat = kk := by omega
      refine ⟨v, .ty nn, _, _, isTab a kk, rfl, .ty nn, ty, isTab_ok a ha kk (by omega) n nn e1 hn, ?_⟩
      rw [hb] at q
      exact atom E q (.bl _)
    · cases e
  · cases e
/-- list(range(a, b)) -/
def rgD (a b : Int) : List D := (List.range (b - a).toNat).map fun i => .int (a + (i : Nat))
theorem rg_rep {W : Addr → Prop} (a b : Int) : RepL C W H (rgV a b) (rgD a b) := by
  unfold rgV rgD
  generalize (List.range (b - a).toNat) = l
  induction l with
  | nil => exact .nil
  | cons i l ih => exact .cons (.int _) ih
def rgOk (a b : Int) : Bool := decide (-1000000000000 ≤ a) && decide (a ≤ 1000000000000) && decide (-1000000000000 ≤ b) && decide (b ≤ 1000000000000) && decide (b - a ≤ 16777216)
theorem rgOk_ok {a b : Int} (h : rgOk a b = true) : RgOk a b := by
  unfold rgOk at h
  simp only [Bool.and_eq_true, decide_eq_true_eq] at h
  obtain ⟨⟨⟨⟨h1, h2⟩, h3⟩, h4⟩, h5⟩ := h
  exact ⟨by omega, by omega, by omega, by omega, by omega⟩
def gLstRg (ga : Sl → EV) (gb : Sl → EV) : Sl → EV := fun δ => (ga δ).bind fun x δ1 => (gb δ1).bind fun y δ2 => match x.1, y.1 with
  | .int i, .int j => if rgOk i j then .ok (.list (rgD i j), true) δ2 else .stk
  | _, _ => .stk
theorem pd_listRg2 {p pos p' pos' : Pos} (hc : X.calm = true) (hg : Gl X "list") (hm : X.mg "list" = none) (hg' : Gl X "range") (hm' : X.mg "range" = none) (ha : PE X a (tD C W G ga)) (hb : PE X b (tD C W G gb))
    (na : starEach [a, b] X.env = (false, eval a X.env) :: starEach [b] X.env := by rfl) (nb : starEach [b] X.env = (false, eval b X.env) :: starEach [] X.env := by rfl) (hp : (backTo pos' (starEach [b] X.env)).any (·.1) = false := by rfl)
    (nc : starEach [.Call (.Name "range" p') [a, b] [] pos'] X.env = (false, eval (.Call (.Name "range" p') [a, b] [] pos') X.env) :: starEach [] X.env := by rfl) :
    PE X (.Call (.Name "list" p) [.Call (.Name "range" p') [a, b] [] pos'] [] pos) (tD C W G (gLstRg ga gb)) :=
  PE.imp (pe_listRg hc hg hm (prg_2 hg' hm' ha hb na nb hp) nc) fun σ H Q ⟨δ, E, p⟩ => ⟨δ, E, (Post.bind p).imp fun x δ1 H1 E1 X1 p1 v rv fv => ⟨δ1, E1, (Post.bind p1).imp fun y δ2 H2 E2 X2 p2 w rw fw => by
    obtain ⟨x, fx⟩ := x
    obtain ⟨y, fy⟩ := y
    clear fw fv
    cases x <;> first | exact (show False from p2).elim | skip
    cases y <;> first | exact (show False from p2).elim | skip
    rename_i i j
    cases rv; cases rw
    have p3 : Post C W G δ2 σ H2 (kE C G δ2 σ H2 Q) (if rgOk i j then .ok (.list (rgD i j), true) δ2 else .stk) := p2.at (X1.trans X2)
    split at p3
    · rename_i hr
      have ok := rgOk_ok hr
      exact ⟨i, j, rfl, rfl, ok, fun q hq => newl E2 (fun u H' E' X' r' f' => p3 H' E' X' u r' f') (rg_rep i j) (by rw [rgV_length, sizeLine_eq]; have := ok.2.2.2.2; omega) hq⟩
    · exact p3.elim⟩⟩
end
end DL
namespace DL
open PySem PySem.Spec L2
open PyProof.Rows hiding St
/-- the iterator J gives the items ds while P holds, and P lasts -/
structure SrcOk (C : Ct) (J : It) (ds : List D) (P : (Addr → Prop) → Hp → Prop) : Prop where
  mv : ∀ (W W' O : Addr → Prop) (H H' : Hp), P W H → Kept O H H' → (∀ a, O a → W a) → (∀ a, W' a → W a ∨ H a = none) → P W' H'
  go : ∀ (W : Addr → Prop) (H : Hp) (i : Nat) (d : D), P W H → ds[i]? = some d → J.go i H ∧ ∀ x H', J.yld i H x H' → (H' = H ∨ ∃ p xs, H p = none ∧ H' = upd H p (.tup xs)) ∧ Rep C W H' x d
  stop : ∀ (W : Addr → Prop) (H : Hp) (i : Nat), P W H → ds.length ≤ i → J.stop i H
def kI (C : Ct) (G : Gh) (σ : St) (R : It → Hp → Prop) : List D → Sl → Hp → Prop := fun ds δ' H' => ∀ J P, SrcOk C J ds P → P (WW G δ' σ) H' → R J H'
def tI (C : Ct) (W : WX) (G : Gh) (g : Sl → R Sl (List D)) : TI := fun σ H R => ∃ δ, ERel C G δ σ H ∧ Post C W G δ σ H (kI C G σ R) (g δ)
theorem PI.imp {X : Cx} {tg e : Expr} {t t' : TI} (h : PI X tg e t) (hi : ∀ σ H Q, t' σ H Q → t σ H Q) : PI X tg e t' := ⟨fun pins s σ H Q I q => h.run pins s σ H Q I (hi σ H Q q)⟩
def enumD : Nat → List D → List D
  | _, [] => []
  | k, d :: r => .tuple [.int (k : Nat), d] :: enumD (k + 1) r
def zipD : List D → List D → List D
  | d :: r, e :: s => .tuple [d, e] :: zipD r s
  | _, _ => []
theorem enumD_get : ∀ (ds : List D) (k i : Nat), (enumD k ds)[i]? = ds[i]?.map fun d => .tuple [.int ((k + i : Nat) : Int), d]
  | [], _, _ => rfl
  | d :: r, k, 0 => rfl
  | d :: r, k, i + 1 => by
    show (enumD (k + 1) r)[i]? = _
    rw [enumD_get r (k + 1) i, show k + 1 + i = k + (i + 1) by omega]
    rfl
theorem enumD_len : ∀ (ds : List D) (k : Nat), (enumD k ds).length = ds.length
  | [], _ => rfl
  | d :: r, k => by simp [enumD, enumD_len r]
theorem zipD_get : ∀ (ds es : List D) (i : Nat) (z : D), (zipD ds es)[i]? = some z → ∃ d e, ds[i]? = some d ∧ es[i]? = some e ∧ z = .tuple [d, e]
  | [], _, _, _, h => by simp [zipD] at h
  | _ :: _, [], _, _, h => by simp [zipD] at h
  | d :: r, e :: s, 0, z, h => ⟨d, e, rfl, rfl, (Option.some.inj h).symm⟩
  | d :: r, e :: s, i + 1, z, h => zipD_get r s i z h
theorem zipD_len : ∀ (ds es : List D) (i : Nat), (zipD ds es).length ≤ i → ds.length ≤ i ∨ es.length ≤ i
  | [], _, _, _ => .inl (Nat.zero_le _)
  | _ :: _, [], _, _ => .inr (Nat.zero_le _)
  | d :: r, e :: s, 0, h => by simp [zipD] at h
  | d :: r, e :: s, i + 1, h => by
    have h' : (zipD r s).length ≤ i := by simpa [zipD] using h
    rcases zipD_len r s i h' with q | q
    · exact .inl (by simpa using q)
    · exact .inr (by simpa using q)
section
variable {C : Ct} {W : WX} {G : Gh} {δ δ1 : Sl} {σ : St} {H H1 : Hp} {X : Cx} {tg a b c e : Expr} {es : List Expr} {ga gb gc : Sl → EV} {gr : Sl → R Sl (List D)} {pos : Pos}
/-- a list that is read: its place is no slot's own, or it is the script -/
def LstAt (C : Ct) (a : Addr) (xs : List V) (ds : List D) (W : Addr → Prop) (H : Hp) : Prop := ((¬ W a ∧ H a = some (.lst xs)) ∨ ScrAt C.K H a xs) ∧ RepL C W H xs ds
theorem LstAt.sq {a : Addr} {xs : List V} {ds : List D} {W : Addr → Prop} (h : LstAt C a xs ds W H) : SqL C.K H a xs := by
  rcases h.1 with h | h
  · exact SqL.of h.2
  · exact h.sq
theorem LstAt.mv {a : Addr} {xs : List V} {ds : List D} {W W' O : Addr → Prop} {H H' : Hp} (h : LstAt C a xs ds W H) (k : Kept O H H') (ho : ∀ a, O a → W a) (hw : ∀ a, W' a → W a ∨ H a = none) : LstAt C a xs ds W' H' := by
  refine ⟨?_, h.2.move k ho hw⟩
  rcases h.1 with h | h
  · exact .inl ⟨fun z => (hw a z).elim h.1 (fun q => by rw [h.2] at q; cases q), k.kp _ _ h.2 fun z => absurd (ho a z) h.1⟩
  · exact .inr (k.scr h)
theorem src_list {a : Addr} {xs : List V} {ds : List D} : SrcOk C (Itl C.K a) ds (LstAt C a xs ds) where
  mv := fun W W' O H H' p k ho hw => p.mv k ho hw
  go := fun W H i d p e => by
    obtain ⟨v, h1, h2⟩ := p.2.get e
    exact ⟨⟨xs, v, p.sq, h1⟩, fun x H' ⟨hH, hy⟩ => by
      subst hH
      refine ⟨.inl rfl, ?_⟩
      have q := hy xs p.sq
      rw [h1] at q; cases q
      exact h2⟩
  stop := fun W H i p h => ⟨xs, p.sq, by rw [p.2.length]; exact h⟩
def TupAt (C : Ct) (a : Addr) (xs : List V) (ds : List D) (W : Addr → Prop) (H : Hp) : Prop := SqT C.K H a xs ∧ RepL C W H xs ds
theorem src_tup {a : Addr} {xs : List V} {ds : List D} : SrcOk C (Itt C.K a) ds (TupAt C a xs ds) where
  mv := fun W W' O H H' p k ho hw => ⟨k.sqT p.1, p.2.move k ho hw⟩
  go := fun W H i d p e => by
    obtain ⟨v, h1, h2⟩ := p.2.get e
    exact ⟨⟨xs, v, p.1, h1⟩, fun x H' ⟨hH, hy⟩ => by
      subst hH
      refine ⟨.inl rfl, ?_⟩
      have q := hy xs p.1
      rw [h1] at q; cases q
      exact h2⟩
  stop := fun W H i p h => ⟨xs, p.1, by rw [p.2.length]; exact h⟩
def rgN (lo : Int) (n : Nat) : List D := (List.range n).map fun i => .int (lo + (i : Nat))
theorem rgN_get {lo : Int} {n i : Nat} {d : D} (h : (rgN lo n)[i]? = some d) : i < n ∧ d = .int (lo + (i : Nat)) := by
  unfold rgN at h
  rw [List.getElem?_map] at h
  cases e : (List.range n)[i]? with
  | none => rw [e] at h; cases h
  | some j =>
    rw [e] at h
    obtain ⟨h1, h2⟩ := List.getElem?_eq_some_iff.mp e
    rw [List.getElem_range] at h2
    subst h2
    exact ⟨by simpa using h1, (Option.some.inj h).symm⟩
theorem src_rg {lo : Int} {n : Nat} : SrcOk C (Itr lo n) (rgN lo n) (fun _ _ => True) where
  mv := fun _ _ _ _ _ _ _ _ _ => trivial
  go := fun W H i d _ e => by
    obtain ⟨h1, rfl⟩ := rgN_get e
    exact ⟨h1, fun x H' ⟨hH, hy⟩ => by subst hH hy; exact ⟨.inl rfl, .int _⟩⟩
  stop := fun W H i _ h => by
    have z : (rgN lo n).length = n := by simp [rgN]
    rw [z] at h; exact h
theorem src_enum {a : Addr} {xs : List V} {ds : List D} : SrcOk C (Ite C.K a) (enumD 0 ds) (LstAt C a xs ds) where
  mv := fun W W' O H H' p k ho hw => p.mv k ho hw
  go := fun W H i d p e => by
    rw [enumD_get] at e
    cases q : ds[i]? with
    | none => rw [q] at e; cases e
    | some d0 =>
      rw [q] at e
      have e' := Option.some.inj e
      subst e'
      obtain ⟨v, h1, h2⟩ := p.2.get q
      refine ⟨⟨xs, v, p.sq, h1⟩, fun x H' ⟨T, y, hx, hT, hH, hy⟩ => ?_⟩
      subst hx hH
      have z := hy xs p.sq
      rw [h1] at z; cases z
      refine ⟨.inr ⟨T, _, hT, rfl⟩, .tup (.new upd_same) (.cons ?_ (.cons ?_ .nil))⟩
      · rw [Nat.zero_add]; exact .int _
      · exact h2.move (O := fun _ => False) (.fresh hT) (fun _ z => z.elim) fun _ z => .inl z
  stop := fun W H i p h => ⟨xs, p.sq, by rw [p.2.length]; rw [enumD_len] at h; exact h⟩
theorem src_zip {a b : Addr} {xs ys : List V} {ds es : List D} : SrcOk C (Itz C.K a b) (zipD ds es) (fun W H => LstAt C a xs ds W H ∧ LstAt C b ys es W H) where
  mv := fun W W' O H H' p k ho hw => ⟨p.1.mv k ho hw, p.2.mv k ho hw⟩
  go := fun W H i z p e => by
    obtain ⟨d, e, h1, h2, rfl⟩ := zipD_get ds es i z e
    obtain ⟨v, v1, v2⟩ := p.1.2.get h1
    obtain ⟨w, w1, w2⟩ := p.2.2.get h2
    refine ⟨⟨xs, ys, v, w, p.1.sq, p.2.sq, v1, w1⟩, fun x H' ⟨T, x1, y1, hx, hT, hH, hy, hz⟩ => ?_⟩
    subst hx hH
    have z1 := hy xs p.1.sq
    rw [v1] at z1; cases z1
    have z2 := hz ys p.2.sq
    rw [w1] at z2; cases z2
    have k : Kept (fun _ => False) H (upd H T (.tup [v, w])) := .fresh hT
    exact ⟨.inr ⟨T, _, hT, rfl⟩, .tup (.new upd_same) (.cons (v2.move k (fun _ z => z.elim) fun _ z => .inl z) (.cons (w2.move k (fun _ z => z.elim) fun _ z => .inl z) .nil))⟩
  stop := fun W H i p h => ⟨xs, ys, p.1.sq, p.2.sq, by
    rw [p.1.2.length, p.2.2.length]
    exact zipD_len ds es i h⟩
/-- the items of a list's data -/
def lstOf : D → Option (List D)
  | .list xs => some xs
  | .dict [(.bool true, .list xs)] => some xs
  | _ => none
theorem lst_at {W : Addr → Prop} {v : V} {d : D} {ds : List D} (r : Rep C W H v d) (h : lstOf d = some ds) : ∃ a xs, v = .ref a ∧ LstAt C a xs ds W H := by
  unfold lstOf at h
  split at h
  · cases h
    cases r with
    | lst n h r => exact ⟨_, _, rfl, .inl ⟨n, h⟩, r⟩
  · cases h
    cases r with
    | scr h r => exact ⟨_, _, rfl, .inr h, r⟩
  · cases h
def giList (ga : Sl → EV) : Sl → R Sl (List D) := fun δ => (ga δ).bind fun x δ1 => match lstOf x.1 with
  | some ds => .ok ds δ1
  | none => .stk
theorem pid_list (ha : PE X a (tD C W G ga)) (hK : X.K = C.K := by rfl) : PI X tg a (tI C W G (giList ga)) := by
  have h := pi_list (tg := tg) ha
  rw [hK] at h
  exact PI.imp h fun σ H R ⟨δ, E, p⟩ => ⟨δ, E, (Post.bind p).imp fun x δ1 H1 E1 X1 p1 v rv _ => by
    split at p1
    · rename_i ds hd
      obtain ⟨a, xs, rfl, la⟩ := lst_at rv hd
      exact ⟨a, rfl, ⟨xs, la.sq⟩, p1 H1 E1 Ext.refl _ _ src_list la⟩
    · exact p1.elim⟩
def giTup (ga : Sl → EV) : Sl → R Sl (List D) := fun δ => (ga δ).bind fun x δ1 => match x.1 with
  | .tuple ds => .ok ds δ1
  | _ => .stk
theorem pid_tup (ha : PE X a (tD C W G ga)) (hK : X.K = C.K := by rfl) : PI X tg a (tI C W G (giTup ga)) := by
  have h := pi_tup (tg := tg) ha
  rw [hK] at h
  exact PI.imp h fun σ H R ⟨δ, E, p⟩ => ⟨δ, E, (Post.bind p).imp fun x δ1 H1 E1 X1 p1 v rv _ => by
    obtain ⟨d, fr⟩ := x
    cases d <;> first | exact (show False from p1).elim | skip
    cases rv with
    | tup h r => exact ⟨_, rfl, ⟨_, h.1⟩, p1 H1 E1 Ext.refl _ _ src_tup ⟨h.1, r⟩⟩⟩
def giRg1 (gr : Sl → R Sl (List D)) : Sl → R Sl (List D) := fun δ => (gr δ).bind fun xs δ1 => match xs with
  | [.int j] => if -1000000 ≤ j ∧ j ≤ 16777216 then .ok (rgN 0 j.toNat) δ1 else .stk
  | _ => .stk
def giRg2 (gr : Sl → R Sl (List D)) : Sl → R Sl (List D) := fun δ => (gr δ).bind fun xs δ1 => match xs with
  | [.int i, .int j] => if rgOk i j then .ok (rgN i (j - i).toNat) δ1 else .stk
  | _ => .stk
theorem pid_rg1 {p : Pos} (hg : Gl X "range") (hm : X.mg "range" = none) (ha : PA X [a] (tA C W G gr)) (hs : starEach [a] X.env = [(false, eval a X.env)] := by rfl) : PI X tg (.Call (.Name "range" p) [a] [] pos) (tI C W G (giRg1 gr)) := PI.imp (pi_range1 hg hm ha hs) fun σ H R ⟨δ, E, p⟩ =>
  ⟨δ, E, (Post.bind p).imp fun x δ1 H1 E1 X1 p1 vs rs => by
    split at p1
    · rename_i j
      split at p1
      · rename_i hj
        obtain ⟨v, rfl, rv⟩ := rs.one_inv
        cases rv
        exact ⟨j, rfl, by omega, by omega, p1 H1 E1 Ext.refl _ _ src_rg trivial⟩
      · exact p1.elim
    · exact p1.elim⟩
theorem pid_rg2 {p : Pos} (hg : Gl X "range") (hm : X.mg "range" = none) (ha : PA X [a, b] (tA C W G gr)) (hs : starEach [a, b] X.env = [(false, eval a X.env), (false, eval b X.env)] := by rfl) (hs2 : starEach [b] X.env = [(false, eval b X.env)] := by rfl) :
    PI X tg (.Call (.Name "range" p) [a, b] [] pos) (tI C W G (giRg2 gr)) := PI.imp (pi_range2 hg hm ha hs hs2) fun σ H R ⟨δ, E, p⟩ =>
  ⟨δ, E, (Post.bind p).imp fun x δ1 H1 E1 X1 p1 vs rs => by
    split at p1
    · rename_i i j
      split at p1
      · rename_i hj
        obtain ⟨v, w, rfl, rv, rw⟩ := rs.two_inv
        cases rv; cases rw
        have ok := rgOk_ok hj
        exact ⟨i, j, rfl, ⟨ok.1, ok.2.1, ok.2.2.1, ok.2.2.2.1⟩, p1 H1 E1 Ext.refl _ _ src_rg trivial⟩
      · exact p1.elim
    · exact p1.elim⟩
def giEnum (ga : Sl → EV) : Sl → R Sl (List D) := fun δ => (ga δ).bind fun x δ1 => match lstOf x.1 with
  | some ds => .ok (enumD 0 ds) δ1
  | none => .stk
theorem pid_enum {p tpos : Pos} {elts : List Expr} {kk : Nat} (hg : Gl X "enumerate") (hm : X.mg "enumerate" = none) (ha : PE X a (tD C W G ga)) (hs : starEach [a] X.env = [(false, eval a X.env)] := by rfl) (hK : X.K = C.K := by rfl) :
    PI X (.Tuple elts kk tpos) (.Call (.Name "enumerate" p) [a] [] pos) (tI C W G (giEnum ga)) := by
  have h := pi_enum (pos := pos) (p := p) (tpos := tpos) (elts := elts) (kk := kk) hg hm (pa_cons ha pa_nil hs) hs
  rw [hK] at h
  exact PI.imp h fun σ H R ⟨δ, E, p⟩ => ⟨δ, E, (Post.bind p).imp fun x δ1 H1 E1 X1 p1 v rv _ => by
    split at p1
    · rename_i ds hd
      obtain ⟨a, xs, rfl, la⟩ := lst_at rv hd
      exact ⟨a, xs, rfl, la.sq, p1 H1 E1 Ext.refl _ _ src_enum la⟩
    · exact p1.elim⟩
def giZip (ga gb : Sl → EV) : Sl → R Sl (List D) := fun δ => (ga δ).bind fun x δ1 => (gb δ1).bind fun y δ2 => match lstOf x.1, lstOf y.1 with
  | some ds, some es => .ok (zipD ds es) δ2
  | _, _ => .stk
theorem pid_zip {p tpos : Pos} {elts : List Expr} {kk : Nat} (hg : Gl X "zip") (hm : X.mg "zip" = none) (ha : PE X a (tD C W G ga)) (hb : PE X b (tD C W G gb)) (hs : starEach [a, b] X.env = (false, eval a X.env) :: starEach [b] X.env := by rfl) (hs2 : starEach [b] X.env = [(false, eval b X.env)] := by rfl)
    (hpl : (backTo pos (starEach [b] X.env)).any (·.1) = false := by rfl) (hK : X.K = C.K := by rfl) : PI X (.Tuple elts kk tpos) (.Call (.Name "zip" p) [a, b] [] pos) (tI C W G (giZip ga gb)) := by
  have h := pi_zip (pos := pos) (p := p) (tpos := tpos) (elts := elts) (kk := kk) hg hm (pa_cons ha (pa_cons hb pa_nil hs2) hs) hs hpl
  rw [hK] at h
  exact PI.imp h fun σ H R ⟨δ, E, p⟩ => ⟨δ, E, (Post.bind p).imp fun x δ1 H1 E1 X1 p1 v rv _ => ⟨δ1, E1, (Post.bind p1).imp fun y δ2 H2 E2 X2 p2 w rw _ => by
    split at p2
    · rename_i ds es hd he
      obtain ⟨a, xs, rfl, la⟩ := lst_at (X2.rep rv) hd
      obtain ⟨b, ys, rfl, lb⟩ := lst_at rw he
      exact ⟨a, b, xs, ys, rfl, la.sq, lb.sq, p2 H2 E2 Ext.refl _ _ src_zip ⟨la, lb⟩⟩
    · exact p2.elim⟩⟩
end
def setSlot (io : List Nat) (i : Nat) (x : Option (Bool × D)) (δ : Sl) : Option Sl := if io.contains i || decide (δ.length ≤ i) then none else some (δ.set i x)
/-- the slots that may have changed -/
def OffT (ts : List Nat) (σ σ' : St) : Prop := σ'.length = σ.length ∧ ∀ j, j ∉ ts → σ'[j]? = σ[j]?
theorem OffT.refl {ts : List Nat} {σ : St} : OffT ts σ σ := ⟨rfl, fun _ _ => rfl⟩
theorem OffT.trans {ts : List Nat} {σ σ1 σ2 : St} (a : OffT ts σ σ1) (b : OffT ts σ1 σ2) : OffT ts σ σ2 := ⟨b.1.trans a.1, fun j h => (b.2 j h).trans (a.2 j h)⟩
theorem OffT.mono {ts us : List Nat} {σ σ1 : St} (a : OffT ts σ σ1) (h : ∀ i ∈ ts, i ∈ us) : OffT us σ σ1 := ⟨a.1, fun j n => a.2 j fun z => n (h j z)⟩
/-- a target: what it does to the slots with data (fr: a list that nothing else has) -/
def kG (C : Ct) (G : Gh) (ts : List Nat) (δ : Sl) (σ : St) (H : Hp) (Q : St → Hp → Prop) (r : Option Sl) : Prop := match r with
  | some δ' => ∀ σ' H', ERel C G δ' σ' H' → Ext δ σ H δ' σ' H' → OffT ts σ σ' → (∀ i ∈ G.io, i ∉ ts ∨ σ'[i]? = σ[i]?) → Q σ' H'
  | none => False
def tG (C : Ct) (G : Gh) (ts : List Nat) (g : D → Bool → Sl → Option Sl) : TG := fun v σ H Q => ∃ δ0 H0 δ d fr, ERel C G δ σ H ∧ Ext δ0 σ H0 δ σ H ∧ Rep C (WW G δ σ) H v d ∧ (fr = true → FreshN C G δ0 H0 δ σ H v d) ∧ kG C G ts δ0 σ H0 Q (g d fr δ)
def tGs (C : Ct) (G : Gh) (ts : List Nat) (g : List D → Sl → Option Sl) : TGs := fun vs σ H Q => ∃ δ ds, ERel C G δ σ H ∧ RepL C (WW G δ σ) H vs ds ∧ kG C G ts δ σ H Q (g ds δ)
theorem PG.imp {X : Cx} {e : Expr} {t t' : TG} (h : PG X e t) (hi : ∀ v σ H Q, t' v σ H Q → t v σ H Q) : PG X e t' := ⟨fun pins s σ H v u Q I r q => h.run pins s σ H v u Q I r (hi v σ H Q q)⟩
theorem PGs.imp {X : Cx} {e : List Expr} {t t' : TGs} (h : PGs X e t) (hi : ∀ v σ H Q, t' v σ H Q → t v σ H Q) : PGs X e t' := ⟨fun pins s σ H v u Q I r q => h.run pins s σ H v u Q I r (hi v σ H Q q)⟩
def gtName (io : List Nat) (i : Nat) : D → Bool → Sl → Option Sl := fun d fr δ => setSlot io i (some (fr, d)) δ
def gtNil : List D → Sl → Option Sl := fun ds δ => match ds with
  | [] => some δ
  | _ => none
def gtCons (g : D → Bool → Sl → Option Sl) (gs : List D → Sl → Option Sl) : List D → Sl → Option Sl := fun ds δ => match ds with
  | d :: r => (g d false δ).bind fun δ1 => gs r δ1
  | [] => none
def gtTup (gs : List D → Sl → Option Sl) : D → Bool → Sl → Option Sl := fun d _ δ => match d with
  | .tuple ds => gs ds δ
  | _ => none
section
variable {C : Ct} {W : WX} {G : Gh} {δ δ1 : Sl} {σ : St} {H H1 : Hp} {X : Cx} {tg a b c e : Expr} {es : List Expr} {pos : Pos}
theorem own_store {i : Nat} {x : Bool × D} {v : V} (hl : δ.length = σ.length) : ∀ a, Own (δ.set i (some x)) (σ.set i (some v)) a → (Own δ σ a) ∨ (x.1 = true ∧ v = .ref a) := fun a ⟨j, d, h1, h2⟩ => by
  by_cases e : i = j
  · subst e
    by_cases hi : i < δ.length
    · rw [List.getElem?_set_self hi] at h1
      rw [List.getElem?_set_self (hl ▸ hi)] at h2
      have z := Option.some.inj (Option.some.inj h1)
      have z2 := Option.some.inj (Option.some.inj h2)
      exact .inr ⟨by rw [z], z2⟩
    · rw [List.getElem?_eq_none (by simpa using hi)] at h1; cases h1
  · rw [List.getElem?_set_ne e] at h1 h2
    exact .inl ⟨j, d, h1, h2⟩
/-- a slot is stored -/
theorem ERel.store {i : Nat} {v : V} {d : D} {fr : Bool} (E : ERel C G δ σ H) (hi : i < δ.length) (hio : i ∉ G.io) (r : Rep C (WW G δ σ) H v d) (f : fr = true → FreshV C G δ σ H v d) : ERel C G (δ.set i (some (fr, d))) (σ.set i (some v)) H ∧ ∀ a, Own (δ.set i (some (fr, d))) (σ.set i (some v)) a → Own δ σ a ∨ (fr = true ∧ v = .ref a) := by
  cases fr with
  | false =>
    have o : ∀ a, Own (δ.set i (some (false, d))) (σ.set i (some v)) a → Own δ σ a := fun a z => (own_store E.len a z).elim id fun q => by cases q.1
    have w : ∀ a, WW G (δ.set i (some (false, d))) (σ.set i (some v)) a → WW G δ σ a := fun a z => z.elim .inl fun q => .inr (o a q)
    refine ⟨⟨by rw [List.length_set, List.length_set]; exact E.len, fun j e h => ?_, fun j e h => ?_, fun j k a dj dk g1 g2 g3 g4 => ?_, E.fl, E.ol, E.sz, G.ivs C _ _ _ _ _ _ E.iv .refl (G.set (Gh.nio hio)) fun v d r => r.weak w⟩, fun a z => .inl (o a z)⟩
    · by_cases q : i = j
      · subst q
        rw [List.getElem?_set_self hi] at h
        cases h
        exact ⟨v, List.getElem?_set_self (E.len ▸ hi), r.weak w⟩
      · rw [List.getElem?_set_ne q] at h
        obtain ⟨u, h1, h2⟩ := E.sh j e h
        exact ⟨u, by rw [List.getElem?_set_ne q]; exact h1, h2.weak w⟩
    · by_cases q : i = j
      · subst q
        rw [List.getElem?_set_self hi] at h
        cases h
      · rw [List.getElem?_set_ne q] at h
        obtain ⟨b, ys, es, h1, h2, h3, h4, h5⟩ := E.ow j e h
        exact ⟨b, ys, es, by rw [List.getElem?_set_ne q]; exact h1, h2, h3, h4.weak w, h5⟩
    · by_cases q : i = j
      · subst q
        rw [List.getElem?_set_self hi] at g1; cases g1
      · by_cases q' : i = k
        · subst q'
          rw [List.getElem?_set_self hi] at g2; cases g2
        · rw [List.getElem?_set_ne q] at g1 g3
          rw [List.getElem?_set_ne q'] at g2 g4
          exact E.inj j k a dj dk g1 g2 g3 g4
  | true =>
    obtain ⟨a, xs, ds, rfl, rfl, f1, f2, f3, f4, F⟩ := f rfl
    have o : ∀ b, Own (δ.set i (some (true, PyData.list ds))) (σ.set i (some (V.ref a))) b → Own δ σ b ∨ b = a := fun b z => (own_store E.len b z).imp id fun q => by cases q.2; rfl
    have w : ∀ b, WW G (δ.set i (some (true, PyData.list ds))) (σ.set i (some (V.ref a))) b → WW (G.plus a) δ σ b := fun b z => z.elim (fun q => .inl (.inl q)) fun q => (o b q).elim .inr fun e => .inl (.inr e)
    have na : ¬ Own δ σ a := fun ⟨j, e, h1, h2⟩ => by
      obtain ⟨b, _, _, g1, _, _, _, g2, _⟩ := F.ow j e h1
      rw [h2] at g1; cases g1
      exact g2 (.inr rfl)
    refine ⟨⟨by rw [List.length_set, List.length_set]; exact E.len, fun j e h => ?_, fun j e h => ?_, fun j k b dj dk g1 g2 g3 g4 => ?_, E.fl, E.ol, E.sz, G.ivs C _ _ _ _ _ _ F.iv .refl (G.set (Gh.nio hio)) fun v d r => r.weak w⟩, fun b z => (o b z).imp id fun e => ⟨rfl, by rw [e]⟩⟩
    · by_cases q : i = j
      · subst q
        rw [List.getElem?_set_self hi] at h
        cases h
      · rw [List.getElem?_set_ne q] at h
        obtain ⟨u, h1, h2⟩ := F.sh j e h
        exact ⟨u, by rw [List.getElem?_set_ne q]; exact h1, h2.weak w⟩
    · by_cases q : i = j
      · subst q
        rw [List.getElem?_set_self hi] at h
        cases h
        exact ⟨a, xs, ds, List.getElem?_set_self (E.len ▸ hi), rfl, f3, f4.weak w, f2, fun _ => f1⟩
      · rw [List.getElem?_set_ne q] at h
        obtain ⟨b, ys, es, h1, h2, h3, h4, h5, h6⟩ := F.ow j e h
        exact ⟨b, ys, es, by rw [List.getElem?_set_ne q]; exact h1, h2, h3, h4.weak w, fun z => h5 (.inl z), h6⟩
    · by_cases q : i = j
      · subst q
        by_cases q' : i = k
        · exact q'
        · rw [List.getElem?_set_self (E.len ▸ hi)] at g3
          cases g3
          rw [List.getElem?_set_ne q'] at g2 g4
          exact absurd ⟨k, dk, g2, g4⟩ na
      · by_cases q' : i = k
        · subst q'
          rw [List.getElem?_set_self (E.len ▸ hi)] at g4
          cases g4
          rw [List.getElem?_set_ne q] at g1 g3
          exact absurd ⟨j, dj, g1, g3⟩ na
        · rw [List.getElem?_set_ne q] at g1 g3
          rw [List.getElem?_set_ne q'] at g2 g4
          exact E.inj j k b dj dk g1 g2 g3 g4
theorem OffT.set {i : Nat} {x : Option V} : OffT [i] σ (σ.set i x) := ⟨by rw [List.length_set], fun j h => List.getElem?_set_ne (fun e => h (by simp [e]))⟩
theorem pgd_name {i : Nat} {x : Str} (h : PG X (.Name x pos) (gName i)) : PG X (.Name x pos) (tG C G [i] (gtName G.io i)) := PG.imp h fun v σ H Q ⟨δ0, H0, δ, d, fr, E, X0, r, f, k⟩ => by
  show Q (σ.set i (some v)) H
  unfold gtName setSlot at k
  split at k
  · exact k.elim
  · rename_i hn
    rw [Bool.or_eq_true, not_or] at hn
    have hi : i < δ.length := by
      have := hn.2
      simp at this
      exact this
    have hio : i ∉ G.io := by simpa using hn.1
    obtain ⟨E', o⟩ := E.store hi hio r fun z => (f z).1
    refine k _ _ E' ⟨X0.kp, X0.th, fun a z => ?_⟩ OffT.set fun j hj => .inl (by simp; exact fun e => hio (e ▸ hj))
    rcases o a z with q | ⟨q1, q2⟩
    · exact X0.own a q
    · exact ((f q1).2 a q2).symm
theorem pgds_nil : PGs X [] (tGs C G [] gtNil) := PGs.imp pgs_nil fun vs σ H Q ⟨δ, ds, E, r, k⟩ => by
  unfold gtNil at k
  split at k
  · cases r
    exact ⟨rfl, k σ H E Ext.refl OffT.refl fun _ _ => .inr rfl⟩
  · exact k.elim
theorem pgds_cons {g : D → Bool → Sl → Option Sl} {gs : List D → Sl → Option Sl} {ts us : List Nat} (h1 : PG X e (tG C G ts g)) (h2 : PGs X es (tGs C G us gs))
    (hs : (assignEach (e :: es) X.env).map (·.2) = assign e X.env :: (assignEach es X.env).map (·.2) := by rfl) : PGs X (e :: es) (tGs C G (ts ++ us) (gtCons g gs)) := PGs.imp (pgs_cons h1 h2 hs) fun vs σ H Q ⟨δ, ds, E, r, k⟩ => by
  unfold gtCons at k
  split at k
  · rename_i d ds'
    cases r with
    | cons r1 rs =>
      refine ⟨_, _, rfl, δ, H, δ, d, false, E, Ext.refl, r1, (fun z => nomatch z), ?_⟩
      cases q : g d false δ with
      | none => rw [q] at k; exact k.elim
      | some δ1 =>
        rw [q] at k
        intro σ1 H1 E1 X1 o1 i1
        refine ⟨δ1, ds', E1, X1.repL rs, ?_⟩
        have k' : kG C G (ts ++ us) δ σ H Q (gs ds' δ1) := k
        cases q2 : gs ds' δ1 with
        | none => rw [q2] at k'; exact k'.elim
        | some δ2 =>
          rw [q2] at k'
          intro σ2 H2 E2 X2 o2 i2
          refine k' σ2 H2 E2 (X1.trans X2) ((o1.mono fun i h => List.mem_append_left _ h).trans (o2.mono fun i h => List.mem_append_right _ h)) fun i hi => ?_
          rcases i1 i hi with z | z
          · rcases i2 i hi with y | y
            · exact .inl fun q => (List.mem_append.mp q).elim z y
            · by_cases hu : i ∈ us
              · by_cases ht : i ∈ ts
                · exact absurd ht z
                · exact .inr (y.trans (o1.2 i ht))
              · exact .inl fun q => (List.mem_append.mp q).elim z hu
          · rcases i2 i hi with y | y
            · exact .inr ((o2.2 i y).trans z)
            · exact .inr (y.trans z)
  · exact k.elim
theorem pgd_tup {k : Nat} {gs : List D → Sl → Option Sl} {ts : List Nat} {n : Nat} (hc : X.calm = true) (h : PGs X es (tGs C G ts gs)) (hlen : ∀ ds δ δ', gs ds δ = some δ' → ds.length = n)
    (hn : (assignEach es X.env).length = n := by rfl) (hst : (assignEach es X.env).findIdx? (·.1) = none := by rfl) (hK : X.K = C.K := by rfl) : PG X (.Tuple es k pos) (tG C G ts (gtTup gs)) := by
  have h' := pg_tup (pos := pos) (k := k) hc h hn hst
  rw [hK] at h'
  exact PG.imp h' fun v σ H Q ⟨δ0, H0, δ, d, fr, E, X0, r, f, k⟩ => by
    unfold gtTup at k
    split at k
    · rename_i ds
      cases r with
      | tup hs rs =>
        cases q : gs ds δ with
        | none => rw [q] at k; exact k.elim
        | some δ' =>
          refine ⟨_, _, rfl, hs.1, by rw [rs.length]; exact hlen ds δ δ' q, δ, ds, E, rs, ?_⟩
          rw [q] at k ⊢
          exact fun σ' H' E' X' o i => k σ' H' E' (X0.trans X') o i
    · exact k.elim
theorem gtNil_len (ds : List D) (δ δ' : Sl) (h : gtNil ds δ = some δ') : ds.length = 0 := by
  unfold gtNil at h
  split at h
  · rfl
  · cases h
theorem gtCons_len {g : D → Bool → Sl → Option Sl} {gs : List D → Sl → Option Sl} {n : Nat} (h : ∀ ds δ δ', gs ds δ = some δ' → ds.length = n) (ds : List D) (δ δ' : Sl) (e : gtCons g gs ds δ = some δ') : ds.length = n + 1 := by
  unfold gtCons at e
  split at e
  · rename_i d r
    cases q : g d false δ with
    | none => rw [q] at e; cases e
    | some δ1 =>
      rw [q] at e
      rw [List.length_cons, h r δ1 δ' e]
  · cases e
end
inductive Fl where
  | nx | rt (d : D) (fr : Bool) | bk | ct
abbrev SV := R Sl Fl
def IoK (G : Gh) (σ σ' : St) : Prop := ∀ i ∈ G.io, σ'[i]? = σ[i]?
def kF (C : Ct) (G : Gh) (D : Ends) (f : Fl) (δ' : Sl) (σ' : St) (H' : Hp) : Prop := match f with
  | .nx => D.nx σ' H'
  | .bk => D.bk σ' H'
  | .ct => D.ct σ' H'
  | .rt d fr => ∀ v, Rep C (WW G δ' σ') H' v d → (fr = true → FreshV C G δ' σ' H' v d ∨ FreshP C G δ' σ' H' v d) → D.rt v H'
def PostS (C : Ct) (W : WX) (G : Gh) (δ : Sl) (σ : St) (H : Hp) (D : Ends) (r : SV) : Prop := match r with
  | .ok f δ' => ∀ σ' H', ERel C G δ' σ' H' → Ext δ σ H δ' σ' H' → IoK G σ σ' → kF C G D f δ' σ' H'
  | .exc c xs δ' => ∀ cls dct σ' H', ERel C G δ' σ' H' → Ext δ σ H δ' σ' H' → IoK G σ σ' → ExcV C (WW G δ' σ') H' cls dct c xs → W cls dct σ' H'
  | .stk => False
def tS (C : Ct) (W : WX) (G : Gh) (g : Sl → SV) : TS := fun D σ H => ∃ δ, ERel C G δ σ H ∧ PostS C W G δ σ H D (g δ)
theorem IoK.refl {G : Gh} {σ : St} : IoK G σ σ := fun _ _ => rfl
theorem IoK.trans {G : Gh} {σ σ1 σ2 : St} (a : IoK G σ σ1) (b : IoK G σ1 σ2) : IoK G σ σ2 := fun i h => (b i h).trans (a i h)
/-- a statement, then the rest -/
def sSeq (g h : Sl → SV) : Sl → SV := fun δ => match g δ with
  | .ok .nx δ1 => h δ1
  | r => r
def sNext : Sl → SV := fun δ => .ok .nx δ
def sBreak : Sl → SV := fun δ => .ok .bk δ
def sCont : Sl → SV := fun δ => .ok .ct δ
def sExpr (ga : Sl → EV) : Sl → SV := fun δ => (ga δ).bind fun _ δ1 => .ok .nx δ1
def sRet (ga : Sl → EV) : Sl → SV := fun δ => (ga δ).bind fun x δ1 => .ok (.rt x.1 x.2) δ1
def sIf (gt : Sl → R Sl Bool) (g h : Sl → SV) : Sl → SV := fun δ => (gt δ).bind fun b δ1 => if b = true then g δ1 else h δ1
def sAsg (ga : Sl → EV) (g : D → Bool → Sl → Option Sl) : Sl → SV := fun δ => (ga δ).bind fun x δ1 => match g x.1 x.2 δ1 with
  | some δ2 => .ok .nx δ2
  | none => .stk
section
variable {C : Ct} {W : WX} {G : Gh} {δ δ1 : Sl} {σ σ1 : St} {H H1 : Hp} {X : Cx} {a b e : Expr} {st : Stmt} {rest ss : List Stmt} {ga gb : Sl → EV} {g h : Sl → SV} {gt : Sl → R Sl Bool} {pos : Pos} {D : Ends} {r : SV}
theorem PostS.later (x : Ext δ σ H δ1 σ1 H1) (i : IoK G σ σ1) (p : PostS C W G δ σ H D r) : PostS C W G δ1 σ1 H1 D r := by
  cases r with
  | ok f δ' => exact fun σ' H' E X I => p σ' H' E (x.trans X) (i.trans I)
  | exc c xs δ' => exact fun cls dct σ' H' E X I v => p cls dct σ' H' E (x.trans X) (i.trans I) v
  | stk => exact p
/-- an expression ahead of a statement's end -/
theorem PostS.bindE {f : PyData × Bool → Sl → SV} {x : EV} (p : PostS C W G δ σ H D (x.bind f)) : Post C W G δ σ H (fun y δ1 H1 => PostS C W G δ1 σ H1 D (f y δ1)) x := by
  cases x with
  | ok y δ' => exact fun H' E X => PostS.later X IoK.refl p
  | exc c xs δ' => exact fun cls dct H' E X v => p cls dct σ H' E X IoK.refl v
  | stk => exact p
theorem PostS.bindT {α : Type} {f : α → Sl → SV} {x : R Sl α} (p : PostS C W G δ σ H D (x.bind f)) : Post C W G δ σ H (fun y δ1 H1 => PostS C W G δ1 σ H1 D (f y δ1)) x := by
  cases x with
  | ok y δ' => exact fun H' E X => PostS.later X IoK.refl p
  | exc c xs δ' => exact fun cls dct H' E X v => p cls dct σ H' E X IoK.refl v
  | stk => exact p
theorem pssd_nil : PSs X [] (tS C W G sNext) := PSs.imp pss_nil fun D σ H ⟨δ, E, p⟩ => p σ H E Ext.refl IoK.refl
theorem seq_ok (hp : PostS C W G δ σ H D (sSeq g h δ)) : PostS C W G δ σ H { D with nx := tS C W G h D } (g δ) := by
  unfold sSeq at hp
  cases q : g δ with
  | ok f δ1 =>
    rw [q] at hp
    cases f with
    | nx => exact fun σ' H' E X I => ⟨δ1, E, PostS.later X I hp⟩
    | rt d fr => exact hp
    | bk => exact hp
    | ct => exact hp
  | exc c xs δ1 => rw [q] at hp; exact hp
  | stk => rw [q] at hp; exact hp
theorem pssd_cons (h1 : PS X st (tS C W G g)) (h2 : PSs X rest (tS C W G h)) : PSs X (st :: rest) (tS C W G (sSeq g h)) := PSs.imp (pss_cons h1 h2) fun D σ H ⟨δ, E, p⟩ => ⟨δ, E, seq_ok p⟩
theorem pssd_one (h1 : PS X st (tS C W G g)) : PSs X [st] (tS C W G g) := pss_one h1
theorem psd_expr (ha : PE X a (tD C W G ga)) (hs : swapsWith a none pos.line X.env = pure false := by rfl) : PS X (.Expr a pos) (tS C W G (sExpr ga)) := PS.imp (ps_expr ha hs) fun D σ H ⟨δ, E, p⟩ =>
  ⟨δ, E, (PostS.bindE p).imp fun x δ1 H1 E1 X1 p1 v rv _ => p1 σ H1 E1 Ext.refl IoK.refl⟩
theorem psd_ret (ha : PE X a (tD C W G ga)) : PS X (.Return (some a) pos) (tS C W G (sRet ga)) := PS.imp (ps_ret ha) fun D σ H ⟨δ, E, p⟩ =>
  ⟨δ, E, (PostS.bindE p).imp fun x δ1 H1 E1 X1 p1 v rv f => p1 σ H1 E1 Ext.refl IoK.refl v rv fun z => .inl (f z).1⟩
theorem psd_if {t : Expr} {sa sb : List Stmt} (ht : PT X t (tT C W G gt)) (ha : PSs X sa (tS C W G g)) (hb : PSs X sb (tS C W G h)) : PS X (.If t sa sb pos) (tS C W G (sIf gt g h)) := PS.imp (ps_if ht ha hb) fun D σ H ⟨δ, E, p⟩ =>
  ⟨δ, E, (PostS.bindT p).imp fun x δ1 H1 E1 X1 p1 => by
    cases x with
    | true => exact iteT (A := tS C W G g D σ H1) (B := tS C W G h D σ H1) ⟨δ1, E1, p1⟩
    | false => exact iteF (A := tS C W G g D σ H1) (B := tS C W G h D σ H1) ⟨δ1, E1, p1⟩⟩
theorem io_of {ts : List Nat} {σ' : St} (o : OffT ts σ σ') (i : ∀ i ∈ G.io, i ∉ ts ∨ σ'[i]? = σ[i]?) : IoK G σ σ' := fun j hj => (i j hj).elim (o.2 j) id
theorem tAsg_ok {tgt : PyData → Bool → Sl → Option Sl} {ts : List Nat} (D : Ends) (σ : St) (H : Hp) (hh : tS C W G (sAsg ga tgt) D σ H) : tAsg (tD C W G ga) (tG C G ts tgt) D σ H := by
  obtain ⟨δ, E, p⟩ := hh
  refine ⟨δ, E, ?_⟩
  unfold sAsg at p
  cases q0 : ga δ with
  | ok x δ1 =>
    rw [q0] at p
    have p : PostS C W G δ σ H D (match tgt x.1 x.2 δ1 with | some δ2 => .ok .nx δ2 | none => .stk) := p
    intro H1 E1 X1 v rv f
    refine ⟨δ, H, δ1, x.1, x.2, E1, X1, rv, f, ?_⟩
    cases q : tgt x.1 x.2 δ1 with
    | none => rw [q] at p; exact p.elim
    | some δ2 =>
      rw [q] at p
      exact fun σ' H' E' X' o i => p σ' H' E' X' (io_of o i)
  | exc c xs δ1 =>
    rw [q0] at p
    exact fun cls dct H' E' X' v => p cls dct σ H' E' X' IoK.refl v
  | stk => rw [q0] at p; exact p
theorem psd_asg {tg : Expr} {tgt : PyData → Bool → Sl → Option Sl} {ts : List Nat} (ha : PE X a (tD C W G ga)) (hg : PG X tg (tG C G ts tgt)) (hs : swapsWithSole [tg] a pos.line X.env = pure false := by rfl) (hw : swappedStores [tg] a X.env = pure none := by rfl)
    (h1 : (assignEach [tg] X.env).map (·.2) = [assign tg X.env] := by rfl) : PS X (.Assign [tg] a pos) (tS C W G (sAsg ga tgt)) := PS.imp (ps_asg ha hg hs hw h1) tAsg_ok
/-- name = e -/
theorem psd_set {i : Nat} {x : Str} {pos' : Pos} (hN : X.N.Nodup) (hi : X.N[i]? = some x) (hx : Loc X.env.scope x) (ha : PE X a (tD C W G ga)) (hs : swapsWith a (some (.Name x pos')) pos.line X.env = pure false := by rfl) (hf : X.fn x = true ∨ X.env.scope.names.lookup x = some .local := by first | exact .inl rfl | exact .inr rfl | assumption) :
    PS X (.Assign [.Name x pos'] a pos) (tS C W G (sAsg ga (gtName G.io i))) := PS.imp (ps_set hN hi hx ha hs hf) fun D σ H h => by
  obtain ⟨δ, E, p⟩ := tAsg_ok (ts := [i]) D σ H h
  refine ⟨δ, E, p.imp fun y δ1 H1 E1 X1 k v rv f => ?_⟩
  have k' := k v rv f
  obtain ⟨δ0, H0, δ2, d, fr, E2, X0, r, f2, k2⟩ := k'
  show D.nx (σ.set i (some v)) H1
  unfold gtName setSlot at k2
  split at k2
  · exact k2.elim
  · rename_i hn
    rw [Bool.or_eq_true, not_or] at hn
    have hi' : i < δ2.length := by
      have := hn.2
      simp at this
      exact this
    have hio : i ∉ G.io := by simpa using hn.1
    obtain ⟨E', o⟩ := E2.store hi' hio r fun z => (f2 z).1
    refine k2 _ _ E' ⟨X0.kp, X0.th, fun a z => ?_⟩ OffT.set fun j hj => .inl (by simp; exact fun e => hio (e ▸ hj))
    rcases o a z with q | ⟨q1, q2⟩
    · exact X0.own a q
    · exact ((f2 q1).2 a q2).symm
/-- name op= e, by the values' operator -/
def sAug (io : List Nat) (i : Nat) (f : DOp) (ga : Sl → EV) : Sl → SV := fun δ => match δ[i]? with
  | some (some (false, _)) => (ga δ).bind fun y δ1 => match δ1[i]? with
    | some (some (false, d)) => match f d y.1 with
      | some (e, false) => match setSlot io i (some (false, e)) δ1 with
        | some δ2 => .ok .nx δ2
        | none => .stk
      | _ => .stk
    | _ => .stk
  | _ => .stk
theorem psd_aug {i : Nat} {x : Str} {op : Operator} {rr : R2} {f : DOp} {pos' : Pos} (hN : X.N.Nodup) (hi : X.N[i]? = some x) (hx : Loc X.env.scope x) (ha : PE X a (tD C W G ga)) (ho : OpR X (inplaceOp op) rr) (od : OpD C rr f) (hf : X.fn x = true ∨ X.env.scope.names.lookup x = some .local := by first | exact .inl rfl | exact .inr rfl | assumption) :
    PS X (.AugAssign (.Name x pos') op a pos) (tS C W G (sAug G.io i f ga)) := PS.imp (ps_aug hN hi hx ha (ti := rr) ho hf) fun D σ H ⟨δ, E, p⟩ => by
  unfold sAug at p
  split at p
  · rename_i d0 h0
    obtain ⟨v, hv, rv⟩ := E.sh i d0 h0
    refine ⟨v, hv, δ, E, (PostS.bindE p).imp fun y δ1 H1 E1 X1 p1 w rw _ => ?_⟩
    split at p1
    · rename_i d1 h1
      obtain ⟨v', hv', rv'⟩ := E1.sh i d1 h1
      rw [hv] at hv'; cases hv'
      split at p1
      · rename_i e he
        split at p1
        · rename_i δ2 h2
          refine od G δ1 σ H1 v w d1 y.1 _ _ E1 rv' rw he fun u H' E' X' r' _ => ?_
          unfold setSlot at h2
          split at h2
          · cases h2
          · rename_i hn
            rw [Bool.or_eq_true, not_or] at hn
            have hi' : i < δ1.length := by
              have := hn.2
              simp at this
              exact this
            have hio : i ∉ G.io := by simpa using hn.1
            cases h2
            obtain ⟨E2, o⟩ := E'.store (fr := false) hi' hio r' fun z => nomatch z
            refine p1 _ _ E2 ⟨X'.kp, X'.th, fun a z => ?_⟩ fun j hj => List.getElem?_set_ne (fun (e : i = j) => hio (by rw [e]; exact hj))
            rcases o a z with q | ⟨q1, _⟩
            · exact X'.own a q
            · cases q1
        · exact p1.elim
      · exact p1.elim
    · exact p1.elim
  · exact p.elim
end
end DL
namespace DL
open PySem PySem.Spec L2
open PyProof.Rows hiding St
def forD (tgt : D → Bool → Sl → Option Sl) (body : Sl → SV) : List D → Sl → SV
  | [], δ => .ok .nx δ
  | d :: r, δ => match tgt d false δ with
    | none => .stk
    | some δ1 => match body δ1 with
      | .ok .nx δ2 => forD tgt body r δ2
      | .ok .ct δ2 => forD tgt body r δ2
      | .ok .bk δ2 => .ok .nx δ2
      | x => x
def sFor (gi : Sl → R Sl (List D)) (tgt : D → Bool → Sl → Option Sl) (body : Sl → SV) : Sl → SV := fun δ => (gi δ).bind fun ds δ1 => forD tgt body ds δ1
def whD (gt : Sl → R Sl Bool) (body : Sl → SV) : Nat → Sl → SV
  | 0, _ => .stk
  | n + 1, δ => (gt δ).bind fun b δ1 => if b = true then match body δ1 with
      | .ok .nx δ2 => whD gt body n δ2
      | .ok .ct δ2 => whD gt body n δ2
      | .ok .bk δ2 => .ok .nx δ2
      | x => x
    else .ok .nx δ1
def sWhile (n : Nat) (gt : Sl → R Sl Bool) (body : Sl → SV) : Sl → SV := whD gt body n
section
variable {C : Ct} {W : WX} {G : Gh} {δ δ1 : Sl} {σ σ1 : St} {H H1 : Hp} {X : Cx} {a b e tg iter : Expr} {ss : List Stmt} {g : Sl → SV} {gt : Sl → R Sl Bool} {gi : Sl → R Sl (List PyData)} {tgt : PyData → Bool → Sl → Option Sl} {ts : List Nat} {pos : Pos} {D : Ends}
/-- the state of a loop with the items ds left -/
theorem psd_for (hp : PassesOwn (model X.prog X.w) X.A X.env X.xe) (hc : X.calm = true) (hi : PI X tg iter (tI C W G gi)) (hg : PG X tg (tG C G ts tgt)) (hb : PSs X ss (tS C W G g))
    (hs : ∀ x, foldedSetIterable iter X.env x = pure x := by intro _; rfl) : PS X (.For tg iter ss [] pos) (tS C W G (sFor gi tgt g)) := PS.imp (ps_for hp hc hi hg hb hs) fun D σ0 H0 ⟨δ, E, p⟩ =>
  ⟨δ, E, (PostS.bindT p).imp fun ds δ1 H1 E1 X1 p1 J P ok pp => by
    refine ⟨fun i m σ H => m = ds.length - i ∧ i ≤ ds.length ∧ ∃ δ, ERel C G δ σ H ∧ PostS C W G δ σ H D (forD tgt g (ds.drop i) δ) ∧ P (WW G δ σ) H, ⟨_, rfl, Nat.zero_le _, δ1, E1, by rw [List.drop_zero]; exact p1, pp⟩, ?_⟩
    rintro i m σ H ⟨rfl, hi, δ2, E2, p2, q2⟩
    by_cases hlt : i < ds.length
    · have hd : ds[i]? = some ds[i] := List.getElem?_eq_getElem hlt
      obtain ⟨go, item⟩ := ok.go _ H i _ q2 hd
      refine .inr ⟨go, fun σ' H' => ∃ δ', ERel C G δ' σ' H' ∧ PostS C W G δ' σ' H' D (forD tgt g (ds.drop (i + 1)) δ') ∧ P (WW G δ' σ') H', fun σ' H' h => ⟨_, by omega, rfl, hlt, h⟩, fun x H' y => ?_⟩
      obtain ⟨hH, rx⟩ := item x H' y
      -- the heap may have one more tuple
      have e2 : ERel C G δ2 σ H' ∧ Ext δ2 σ H δ2 σ H' := by
        rcases hH with rfl | ⟨q, xs, hq, rfl⟩
        · exact ⟨E2, Ext.refl⟩
        · exact ⟨(E2.grow hq fun ys z => by cases z).less, Ext.grow hq⟩
      obtain ⟨E2', X2⟩ := e2
      rw [List.drop_eq_getElem_cons hlt] at p2
      refine ⟨δ2, H', δ2, ds[i], false, E2', Ext.refl, rx, (fun z => nomatch z), ?_⟩
      unfold forD at p2
      cases q : tgt ds[i] false δ2 with
      | none => rw [q] at p2; exact p2.elim
      | some δ3 =>
        rw [q] at p2
        intro σ3 H3 E3 X3 o3 i3
        have io3 := io_of o3 i3
        refine ⟨δ3, E3, ?_⟩
        have mv : ∀ {δ' : Sl} {σ' : St} {H' : Hp}, Ext δ3 σ3 H3 δ' σ' H' → P (WW G δ' σ') H' := fun x => by
          have y := (X2.trans X3).trans x
          exact ok.mv _ _ _ _ _ q2 y.kp (fun _ z => .inr z) y.ww
        have p3 : PostS C W G δ3 σ3 H3 D (match g δ3 with
          | .ok .nx δ2 => forD tgt g (ds.drop (i + 1)) δ2
          | .ok .ct δ2 => forD tgt g (ds.drop (i + 1)) δ2
          | .ok .bk δ2 => .ok .nx δ2
          | x => x) := PostS.later (X2.trans X3) io3 p2
        cases r : g δ3 with
        | ok f δ4 =>
          rw [r] at p3
          cases f with
          | nx => exact fun σ' H' E' X' I' => ⟨δ4, E', PostS.later X' I' p3, mv X'⟩
          | ct => exact fun σ' H' E' X' I' => ⟨δ4, E', PostS.later X' I' p3, mv X'⟩
          | bk => exact p3
          | rt d fr => exact p3
        | exc c xs δ4 => rw [r] at p3; exact p3
        | stk => rw [r] at p3; exact p3
    · have e : i = ds.length := by omega
      subst e
      refine .inl ⟨ok.stop _ H _ q2 (Nat.le_refl _), ?_⟩
      rw [List.drop_length] at p2
      exact p2 σ H E2 Ext.refl IoK.refl⟩
theorem psd_while {n : Nat} (hp : PassesOwn (model X.prog X.w) X.A X.env X.xe) (ht : PT X a (tT C W G gt)) (hb : PSs X ss (tS C W G g)) : PS X (.While a ss [] pos) (tS C W G (sWhile n gt g)) := PS.imp (ps_while hp ht hb) fun D σ0 H0 ⟨δ, E, p⟩ => by
  refine ⟨fun m σ H => ∃ δ, ERel C G δ σ H ∧ PostS C W G δ σ H D (whD gt g m δ), ⟨n, δ, E, p⟩, ?_⟩
  rintro m σ H ⟨δ1, E1, p1⟩
  cases m with
  | zero => exact p1.elim
  | succ m =>
    refine ⟨δ1, E1, (PostS.bindT p1).imp fun b δ2 H2 E2 X2 p2 => ?_⟩
    cases b with
    | false =>
      simp only [kT, Bool.false_eq_true, if_false]
      exact p2 σ H2 E2 Ext.refl IoK.refl
    | true =>
      simp only [kT, if_true]
      refine ⟨fun σ' H' => ∃ δ', ERel C G δ' σ' H' ∧ PostS C W G δ' σ' H' D (whD gt g m δ'), fun σ' H' h => ⟨m, Nat.lt_succ_self _, h⟩, δ2, E2, ?_⟩
      have p3 : PostS C W G δ2 σ H2 D (match g δ2 with
          | .ok .nx δ2 => whD gt g m δ2
          | .ok .ct δ2 => whD gt g m δ2
          | .ok .bk δ2 => .ok .nx δ2
          | x => x) := p2
      cases r : g δ2 with
      | ok f δ4 =>
        rw [r] at p3
        cases f with
        | nx => exact fun σ' H' E' X' I' => ⟨δ4, E', PostS.later X' I' p3⟩
        | ct => exact fun σ' H' E' X' I' => ⟨δ4, E', PostS.later X' I' p3⟩
        | bk => exact p3
        | rt d fr => exact p3
      | exc c xs δ4 => rw [r] at p3; exact p3
      | stk => rw [r] at p3; exact p3
end
def W0 : WX := fun _ _ _ _ => False
def wipeD (δ : Sl) : List Nat → Sl
  | [] => δ
  | v :: vs => (wipeD δ vs).set v none
def backD (δ0 : Sl) : List Nat → Sl → Sl
  | [], δ => δ
  | v :: vs, δ => match δ0[v]? with
    | some x => (backD δ0 vs δ).set v x
    | none => backD δ0 vs δ
/-- none of these slots has a list of its own -/
def noneOwn (δ : Sl) (vs : List Nat) : Bool := vs.all fun v => match δ[v]? with
  | some (some (true, _)) => false
  | _ => true
def lcD (vs : List Nat) (tgt : D → Bool → Sl → Option Sl) (gt : Sl → R Sl Bool) (ge : Sl → EV) : List D → List D → Sl → R Sl (List D)
  | [], acc, δ => .ok acc δ
  | d :: r, acc, δ => match tgt d false δ with
    | none => .stk
    | some δ1 => match gt δ1 with
      | .ok true δ2 => match ge δ2 with
        | .ok x δ3 => lcD vs tgt gt ge r (acc ++ [x.1]) (wipeD δ3 vs)
        | _ => .stk
      | .ok false δ2 => lcD vs tgt gt ge r acc (wipeD δ2 vs)
      | _ => .stk
def gLc (vs : List Nat) (gi : Sl → R Sl (List D)) (tgt : D → Bool → Sl → Option Sl) (gt : Sl → R Sl Bool) (ge : Sl → EV) : Sl → EV := fun δ => (gi δ).bind fun ds δ1 =>
  if noneOwn δ1 vs && decide (ds.length ≤ LINE) then match lcD vs tgt gt ge ds [] (wipeD δ1 vs) with
    | .ok acc δ2 => if noneOwn δ2 vs then .ok (.list acc, true) (backD δ1 vs δ2) else .stk
    | _ => .stk
  else .stk
def gYes : Sl → R Sl Bool := fun δ => .ok true δ
/-- an expression in a block: whatever the ghost -/
def tDx (C : Ct) (io : List Nat) (iv : Ct → Sl → (Addr → Prop) → Hp → Prop) (g : Sl → EV) : TE := fun σ H Q => ∃ G, G.io = io ∧ G.iv = iv ∧ tD C W0 G g σ H Q
def tTx (C : Ct) (io : List Nat) (iv : Ct → Sl → (Addr → Prop) → Hp → Prop) (g : Sl → R Sl Bool) : TT := fun σ H Q => ∃ G, G.io = io ∧ G.iv = iv ∧ tT C W0 G g σ H Q
def tGx (C : Ct) (io : List Nat) (iv : Ct → Sl → (Addr → Prop) → Hp → Prop) (ts : List Nat) (g : D → Bool → Sl → Option Sl) : TG := fun v σ H Q => ∃ G, G.io = io ∧ G.iv = iv ∧ tG C G ts g v σ H Q
section
variable {C : Ct} {W : WX} {G : Gh} {δ δ1 : Sl} {σ σ1 : St} {H H1 : Hp}
theorem wipeD_len : ∀ vs, (wipeD δ vs).length = δ.length
  | [] => rfl
  | v :: vs => by unfold wipeD; rw [List.length_set, wipeD_len vs]
theorem wipeD_get {i : Nat} {x : Bool × D} : ∀ {vs : List Nat}, (wipeD δ vs)[i]? = some (some x) → δ[i]? = some (some x) ∧ i ∉ vs
  | [], h => ⟨h, by simp⟩
  | v :: vs, h => by
    unfold wipeD at h
    by_cases e : v = i
    · subst e
      by_cases hl : v < (wipeD δ vs).length
      · rw [List.getElem?_set_self hl] at h; cases h
      · rw [List.getElem?_eq_none (by simpa using hl)] at h; cases h
    · rw [List.getElem?_set_ne e] at h
      obtain ⟨h1, h2⟩ := wipeD_get h
      exact ⟨h1, by simp only [List.mem_cons, not_or]; exact ⟨fun z => e z.symm, h2⟩⟩
theorem wipe_keep {i : Nat} : ∀ {vs : List Nat}, i ∉ vs → (wipe σ vs)[i]? = σ[i]?
  | [], _ => rfl
  | v :: vs, h => by
    simp only [List.mem_cons, not_or] at h
    unfold wipe
    rw [List.getElem?_set_ne (fun e => h.1 e.symm), wipe_keep h.2]
theorem wipe_gone {i : Nat} : ∀ {vs : List Nat}, i ∈ vs → i < σ.length → (wipe σ vs)[i]? = some none
  | v :: vs, h, hl => by
    unfold wipe
    by_cases e : v = i
    · subst e
      exact List.getElem?_set_self (by rw [wipe_length]; exact hl)
    · rw [List.getElem?_set_ne e]
      exact wipe_gone ((List.mem_cons.mp h).resolve_left fun z => e z.symm) hl
theorem wipe_off {vs : List Nat} (h : OffT vs σ σ1) : wipe σ1 vs = wipe σ vs := by
  refine List.ext_getElem? fun i => ?_
  by_cases hi : i ∈ vs
  · by_cases hl : i < σ.length
    · rw [wipe_gone hi hl, wipe_gone hi (by rw [h.1]; exact hl)]
    · rw [List.getElem?_eq_none (by rw [wipe_length, h.1]; omega), List.getElem?_eq_none (by rw [wipe_length]; omega)]
  · rw [wipe_keep hi, wipe_keep hi, h.2 i hi]
theorem own_wipe {vs : List Nat} : ∀ a, Own (wipeD δ vs) (wipe σ vs) a → Own δ σ a := fun a ⟨i, d, h1, h2⟩ => ⟨i, d, (wipeD_get h1).1, (wipe_some h2).1⟩
theorem noneOwn_get {vs : List Nat} (h : noneOwn δ vs = true) {i : Nat} {d : D} (hi : i ∈ vs) : δ[i]? ≠ some (some (true, d)) := fun e => by
  have z := List.all_eq_true.mp h i hi
  rw [e] at z
  cases z
theorem own_unwipe {vs : List Nat} (h : noneOwn δ vs = true) : ∀ a, Own δ σ a → ∃ i d, i ∉ vs ∧ δ[i]? = some (some (true, d)) ∧ σ[i]? = some (some (.ref a)) := fun a ⟨i, d, h1, h2⟩ => ⟨i, d, fun z => noneOwn_get h z h1, h1, h2⟩
theorem wipeD_keep {i : Nat} : ∀ {vs : List Nat}, i ∉ vs → (wipeD δ vs)[i]? = δ[i]?
  | [], _ => rfl
  | v :: vs, h => by
    simp only [List.mem_cons, not_or] at h
    unfold wipeD
    rw [List.getElem?_set_ne (fun e => h.1 e.symm), wipeD_keep h.2]
/-- into the block -/
theorem wipeD_gh {vs : List Nat} (hv : ∀ i ∈ vs, i + 1000 ∉ G.io) : ∀ i, i + 1000 ∈ G.io → (wipeD δ vs)[i]? = δ[i]? := fun i hi => wipeD_keep fun z => hv i z hi
theorem ERel.wiped {vs : List Nat} (hv : ∀ i ∈ vs, i + 1000 ∉ G.io) (E : ERel C G δ σ H) : ERel C G (wipeD δ vs) (wipe σ vs) H := by
  have w : ∀ b, WW G (wipeD δ vs) (wipe σ vs) b → WW G δ σ b := fun b z => z.elim .inl fun q => .inr (own_wipe b q)
  refine ⟨by rw [wipeD_len, wipe_length]; exact E.len, fun i d h => ?_, fun i d h => ?_, fun i j a di dj g1 g2 g3 g4 => E.inj i j a di dj (wipeD_get g1).1 (wipeD_get g2).1 (wipe_some g3).1 (wipe_some g4).1, E.fl, E.ol, E.sz, G.ivs C _ _ _ _ _ _ E.iv .refl (wipeD_gh hv) fun v d r => r.weak w⟩
  · obtain ⟨h1, h2⟩ := wipeD_get h
    obtain ⟨v, r1, r2⟩ := E.sh i d h1
    exact ⟨v, by rw [wipe_keep h2]; exact r1, r2.weak w⟩
  · obtain ⟨h1, h2⟩ := wipeD_get h
    obtain ⟨b, ys, es, r1, r2, r3, r4, r5⟩ := E.ow i d h1
    exact ⟨b, ys, es, by rw [wipe_keep h2]; exact r1, r2, r3, r4.weak w, r5⟩
theorem Ext.wiped {vs : List Nat} (h : noneOwn δ vs = true) : Ext δ σ H (wipeD δ vs) (wipe σ vs) H ∧ Ext (wipeD δ vs) (wipe σ vs) H δ σ H := by
  refine ⟨⟨Kept.refl, fun _ z => z, fun a z => .inl (own_wipe a z)⟩, ⟨Kept.refl, fun _ z => z, fun a z => .inl ?_⟩⟩
  obtain ⟨i, d, h1, h2, h3⟩ := own_unwipe h a z
  exact ⟨i, d, by rw [wipeD_keep h1]; exact h2, by rw [wipe_keep h1]; exact h3⟩
theorem backD_len {δ0 : Sl} : ∀ vs, (backD δ0 vs δ).length = δ.length
  | [] => rfl
  | v :: vs => by
    unfold backD
    split
    · rw [List.length_set, backD_len vs]
    · exact backD_len vs
theorem backD_keep {δ0 : Sl} {i : Nat} : ∀ {vs : List Nat}, i ∉ vs → (backD δ0 vs δ)[i]? = δ[i]?
  | [], _ => rfl
  | v :: vs, h => by
    simp only [List.mem_cons, not_or] at h
    unfold backD
    split
    · rw [List.getElem?_set_ne (fun e => h.1 e.symm), backD_keep h.2]
    · exact backD_keep h.2
theorem backD_get {δ0 : Sl} (hl : δ.length = δ0.length) {i : Nat} : ∀ {vs : List Nat}, i ∈ vs → (backD δ0 vs δ)[i]? = δ0[i]?
  | v :: vs, h => by
    unfold backD
    by_cases e : v = i
    · subst e
      split
      · rename_i x hx
        rw [List.getElem?_set_self (by rw [backD_len, hl]; exact (List.getElem?_eq_some_iff.mp hx).1), hx]
      · rename_i hx
        rw [hx]
        have z : δ0.length ≤ v := List.getElem?_eq_none_iff.mp hx
        exact List.getElem?_eq_none (by rw [backD_len, hl]; exact z)
    · have hi := (List.mem_cons.mp h).resolve_left fun z => e z.symm
      split
      · rw [List.getElem?_set_ne e]; exact backD_get hl hi
      · exact backD_get hl hi
/-- out of the block -/
theorem ERel.unwiped {δ0 : Sl} {H0 : Hp} {vs : List Nat} {G' : Gh} (hv : ∀ i ∈ vs, i + 1000 ∉ G.io) (E0 : ERel C G δ0 σ H0) (h0 : noneOwn δ0 vs = true) (E : ERel C G' δ (wipe σ vs) H) (h1 : noneOwn δ vs = true) (hG : ∀ a, G.F a → G'.F a) (hio : G'.io = G.io) (hol : ∀ a, G.Old a → G'.Old a)
    (X : Ext δ0 σ H0 δ (wipe σ vs) H) (fl : ∀ a, G'.F a → G.F a ∨ H0 a = none) (ol : ∀ a, G'.Old a → H a ≠ none) : ERel C G' (backD δ0 vs δ) σ H ∧ (∀ a, Own (backD δ0 vs δ) σ a → Own δ (wipe σ vs) a) := by
  have hl : δ.length = δ0.length := by rw [E.len, wipe_length, E0.len]
  have o : ∀ a, Own (backD δ0 vs δ) σ a → Own δ (wipe σ vs) a := fun a ⟨i, d, g1, g2⟩ => by
    by_cases hi : i ∈ vs
    · rw [backD_get hl hi] at g1
      exact absurd g1 (noneOwn_get h0 hi)
    · rw [backD_keep hi] at g1
      exact ⟨i, d, g1, by rw [wipe_keep hi]; exact g2⟩
  have w : ∀ b, WW G' (backD δ0 vs δ) σ b → WW G' δ (wipe σ vs) b := fun b z => z.elim .inl fun q => .inr (o b q)
  refine ⟨⟨by rw [backD_len, hl]; exact E0.len, fun i d g => ?_, fun i d g => ?_, fun i j a di dj g1 g2 g3 g4 => ?_, E.fl, E.ol, E.sz, G'.ivs C _ _ _ _ _ _ E.iv .refl (fun i hi => backD_keep fun z => hv i z (hio ▸ hi)) fun v d r => r.weak w⟩, o⟩
  · by_cases hi : i ∈ vs
    · rw [backD_get hl hi] at g
      obtain ⟨v, r1, r2⟩ := E0.sh i d g
      refine ⟨v, r1, r2.move X.kp (fun _ z => .inr z) fun a z => ?_⟩
      rcases z with z | z
      · exact (fl a z).imp .inl id
      · exact (X.own a (o a z)).imp .inr id
    · rw [backD_keep hi] at g
      obtain ⟨v, r1, r2⟩ := E.sh i d g
      exact ⟨v, (wipe_some r1).1, r2.weak w⟩
  · by_cases hi : i ∈ vs
    · rw [backD_get hl hi] at g
      exact absurd g (noneOwn_get h0 hi)
    · rw [backD_keep hi] at g
      obtain ⟨b, ys, es, r1, r2, r3, r4, r5⟩ := E.ow i d g
      exact ⟨b, ys, es, (wipe_some r1).1, r2, r3, r4.weak w, r5⟩
  · have key : ∀ {i d}, (backD δ0 vs δ)[i]? = some (some (true, d)) → i ∉ vs ∧ δ[i]? = some (some (true, d)) := fun {i d} g => by
      by_cases hi : i ∈ vs
      · rw [backD_get hl hi] at g
        exact absurd g (noneOwn_get h0 hi)
      · rw [backD_keep hi] at g
        exact ⟨hi, g⟩
    obtain ⟨n1, q1⟩ := key g1
    obtain ⟨n2, q2⟩ := key g2
    exact E.inj i j a di dj q1 q2 (by rw [wipe_keep n1]; exact g3) (by rw [wipe_keep n2]; exact g4)
end
section
variable {C : Ct} {W : WX} {G : Gh} {δ δ1 : Sl} {σ σ1 : St} {H H1 : Hp}
/-- a list that no slot may touch is changed -/
theorem ERel.updF {p : Addr} {xs ys : List V} (E : ERel C G δ σ H) (hF : G.F p) (hp : H p = some (.lst xs)) (hl : ys.length ≤ sizeLine) : ERel C G δ σ (upd H p (.lst ys)) := by
  have k : Kept (fun a => a = p) H (upd H p (.lst ys)) := .updL hp
  have hO : ∀ a, a = p → WW G δ σ a := fun a e => by rw [e]; exact .inl hF
  refine ⟨E.len, fun i d e => ?_, fun i d e => ?_, E.inj, fun a z => ?_, fun a z => ?_, fun a zs z => ?_, G.ivs C _ _ _ _ _ _ E.iv (.upd (.inr ⟨_, hp, fun z => z⟩)) (fun _ _ => rfl) fun v d r => r.move k hO fun a z => .inl z⟩
  · obtain ⟨v, h1, h2⟩ := E.sh i d e
    exact ⟨v, h1, h2.move k hO fun a z => .inl z⟩
  · obtain ⟨a, zs, ds, h1, h2, h3, h4, h5, h6⟩ := E.ow i d e
    exact ⟨a, zs, ds, h1, h2, by rw [upd_ne (fun e => h5 (by rw [e]; exact hF))]; exact h3, h4.move k hO fun a z => .inl z, h5, h6⟩
  · by_cases e : a = p
    · rw [e, upd_same]; exact fun z => nomatch z
    · rw [upd_ne e]; exact E.fl a z
  · by_cases e : a = p
    · rw [e, upd_same]; exact fun z => nomatch z
    · rw [upd_ne e]; exact E.ol a z
  · by_cases e : a = p
    · rw [e, upd_same] at z; cases z; exact hl
    · rw [upd_ne e] at z; exact E.sz a zs z
theorem ERel.notOwn {p : Addr} (E : ERel C G δ σ H) (hF : G.F p) : ¬ Own δ σ p := fun ⟨i, d, h1, h2⟩ => by
  obtain ⟨a, _, _, g1, _, _, _, g2, _⟩ := E.ow i d h1
  rw [h2] at g1; cases g1
  exact g2 hF
theorem wipe_wipe {vs : List Nat} : wipe (wipe σ vs) vs = wipe σ vs := wipe_off ⟨wipe_length σ vs, fun _ h => wipe_keep h⟩
theorem tLc_ok {io vs ts : List Nat} {gi : Sl → R Sl (List PyData)} {tgt : PyData → Bool → Sl → Option Sl} {gt : Sl → R Sl Bool} {ge : Sl → EV} (hio : G.io = io) (hts : ∀ i ∈ ts, i ∈ vs) (hv : ∀ i ∈ vs, i + 1000 ∉ G.io) (Q : VK) (h : tD C W G (gLc vs gi tgt gt ge) σ H Q) :
    tLc (tI C W G gi) (tGx C io G.iv ts tgt) (tTx C io G.iv gt) (tDx C io G.iv ge) vs σ H Q := by
  obtain ⟨δ, E, p⟩ := h
  refine ⟨δ, E, (Post.bind p).imp fun ds δ1 H1 E1 X1 p0 J P ok pp D hD => ?_⟩
  have p1 := p0.at X1
  split at p1
  case isFalse => exact (show False from p1).elim
  case isTrue hcond =>
  rw [Bool.and_eq_true] at hcond
  have hno := hcond.1
  have hlen : ds.length ≤ LINE := of_decide_eq_true hcond.2
  cases hf : lcD vs tgt gt ge ds [] (wipeD δ1 vs) with
  | exc c xs d => rw [hf] at p1; exact (show False from p1).elim
  | stk => rw [hf] at p1; exact (show False from p1).elim
  | ok accF δF =>
  rw [hf] at p1
  have E1' : ERel C (G.plus D) (wipeD δ1 vs) (wipe σ vs) (upd H1 D (.lst [])) := (E1.grow hD fun ys e => by cases e; exact Nat.zero_le _).wiped hv
  have Dplus : (G.plus D).F D := .inr rfl
  have X0 : Ext (wipeD δ1 vs) (wipe σ vs) H1 (wipeD δ1 vs) (wipe σ vs) (upd H1 D (.lst [])) := Ext.grow hD
  have pp' : P (WW (G.plus D) (wipeD δ1 vs) (wipe σ vs)) (upd H1 D (.lst [])) := ok.mv _ _ (fun _ => False) _ _ pp (.fresh hD) (fun _ (z : False) => z.elim) fun a z => by
    rcases z with (z | z) | z
    · exact .inl (.inl z)
    · exact .inr (by rw [z]; exact hD)
    · exact .inl (.inr (own_wipe a z))
  refine ⟨fun i m H => m = ds.length - i ∧ i ≤ ds.length ∧ ∃ δ acc accV, ERel C (G.plus D) δ (wipe σ vs) H ∧ H D = some (.lst accV) ∧ RepL C (WW (G.plus D) δ (wipe σ vs)) H accV acc ∧ accV.length ≤ i ∧
      lcD vs tgt gt ge (ds.drop i) acc δ = .ok accF δF ∧ P (WW (G.plus D) δ (wipe σ vs)) H ∧ Ext (wipeD δ1 vs) (wipe σ vs) H1 δ (wipe σ vs) H, ⟨_, rfl, Nat.zero_le _, wipeD δ1 vs, [], [], E1', upd_same, .nil, Nat.le_refl _, by rw [List.drop_zero]; exact hf, pp', X0⟩, ?_⟩
  rintro i m H2 ⟨rfl, hi, δ2, acc, accV, E2, hD2, r2, l2, e2, q2, X2⟩
  by_cases hlt : i < ds.length
  · have hd : ds[i]? = some ds[i] := List.getElem?_eq_getElem hlt
    obtain ⟨go, item⟩ := ok.go _ H2 i _ q2 hd
    refine .inr ⟨go, fun H' => ∃ δ acc accV, ERel C (G.plus D) δ (wipe σ vs) H' ∧ H' D = some (.lst accV) ∧ RepL C (WW (G.plus D) δ (wipe σ vs)) H' accV acc ∧ accV.length ≤ i + 1 ∧
      lcD vs tgt gt ge (ds.drop (i + 1)) acc δ = .ok accF δF ∧ P (WW (G.plus D) δ (wipe σ vs)) H' ∧ Ext (wipeD δ1 vs) (wipe σ vs) H1 δ (wipe σ vs) H', fun H' h => ⟨_, by omega, rfl, hlt, h⟩, fun x H3 y => ?_⟩
    obtain ⟨hH, rx⟩ := item x H3 y
    have e3 : ERel C (G.plus D) δ2 (wipe σ vs) H3 ∧ Ext δ2 (wipe σ vs) H2 δ2 (wipe σ vs) H3 := by
      rcases hH with rfl | ⟨q, xs, hq, rfl⟩
      · exact ⟨E2, Ext.refl⟩
      · exact ⟨(E2.grow hq fun ys z => by cases z).less, Ext.grow hq⟩
    obtain ⟨E3, X3⟩ := e3
    rw [List.drop_eq_getElem_cons hlt] at e2
    unfold lcD at e2
    refine ⟨G.plus D, hio, rfl, δ2, H3, δ2, ds[i], false, E3, Ext.refl, rx, (fun z => nomatch z), ?_⟩
    cases q : tgt ds[i] false δ2 with
    | none => rw [q] at e2; cases e2
    | some δ3 =>
    rw [q] at e2
    try dsimp only at e2
    intro σ4 H4 E4 X4 o4 i4
    have hw4 : wipe σ4 vs = wipe σ vs := by rw [wipe_off (o4.mono hts), wipe_wipe]
    refine ⟨hw4, G.plus D, hio, rfl, δ3, E4, ?_⟩
    cases q5 : gt δ3 with
    | exc c xs d => rw [q5] at e2; cases e2
    | stk => rw [q5] at e2; cases e2
    | ok b δ5 =>
    rw [q5] at e2
    try dsimp only at e2
    intro H5 E5 X5
    -- the turn's end
    have fin : ∀ {δ6 : Sl} {H6 : Hp} {acc' : List PyData} {accV' : List V}, ERel C (G.plus D) δ6 σ4 H6 → P (WW (G.plus D) δ6 σ4) H6 → Ext (wipeD δ1 vs) (wipe σ vs) H1 δ6 σ4 H6 → H6 D = some (.lst accV') → RepL C (WW (G.plus D) δ6 σ4) H6 accV' acc' → accV'.length ≤ i + 1 → lcD vs tgt gt ge (ds.drop (i + 1)) acc' (wipeD δ6 vs) = .ok accF δF →
        ∃ δ acc accV, ERel C (G.plus D) δ (wipe σ vs) H6 ∧ H6 D = some (.lst accV) ∧ RepL C (WW (G.plus D) δ (wipe σ vs)) H6 accV acc ∧ accV.length ≤ i + 1 ∧
        lcD vs tgt gt ge (ds.drop (i + 1)) acc δ = .ok accF δF ∧ P (WW (G.plus D) δ (wipe σ vs)) H6 ∧ Ext (wipeD δ1 vs) (wipe σ vs) H1 δ (wipe σ vs) H6 := fun {δ6 H6 acc' accV'} E6 P6 X6 hD6 r6 l6 e6 => by
      have Xw : Ext δ6 σ4 H6 (wipeD δ6 vs) (wipe σ vs) H6 := ⟨Kept.refl, fun _ z => z, fun a z => .inl (own_wipe a (by rw [hw4]; exact z))⟩
      have E7 : ERel C (G.plus D) (wipeD δ6 vs) (wipe σ vs) H6 := hw4 ▸ E6.wiped hv
      exact ⟨wipeD δ6 vs, acc', accV', E7, hD6, Xw.repL r6, l6, e6, ok.mv _ _ _ _ _ P6 Xw.kp (fun _ z => .inr z) Xw.ww, X6.trans Xw⟩
    have X25 := (X3.trans X4).trans X5
    have keepD : ∀ {δ6 : Sl} {σ6 : St} {H6 : Hp}, Ext δ2 (wipe σ vs) H2 δ6 σ6 H6 → H6 D = some (.lst accV) := fun x => x.kp.kp D _ hD2 fun z => absurd z (E2.notOwn Dplus)
    have keepP : ∀ {δ6 : Sl} {σ6 : St} {H6 : Hp}, Ext δ2 (wipe σ vs) H2 δ6 σ6 H6 → P (WW (G.plus D) δ6 σ6) H6 := fun x => ok.mv _ _ _ _ _ q2 x.kp (fun _ z => .inr z) x.ww
    cases b with
    | false =>
      simp only [kT, Bool.false_eq_true, if_false]
      exact fin E5 (keepP X25) (X2.trans X25) (keepD X25) (X25.repL r2) (Nat.le_succ_of_le l2) e2
    | true =>
      simp only [kT, if_true]
      refine ⟨G.plus D, hio, rfl, δ5, E5, ?_⟩
      try dsimp only at e2
      cases q6 : ge δ5 with
      | exc c xs d => rw [q6] at e2; cases e2
      | stk => rw [q6] at e2; cases e2
      | ok z δ6 =>
      rw [q6] at e2
      try dsimp only at e2
      intro H6 E6 X6 v rv _
      have X26 := X25.trans X6
      have hD6 := keepD X26
      have hz : accV.length < sizeLine := by rw [← line_eq]; exact Nat.lt_of_le_of_lt l2 (Nat.lt_of_lt_of_le hlt hlen)
      refine ⟨accV, hD6, hz, ?_⟩
      have hl7 : (accV ++ [v]).length ≤ sizeLine := by rw [List.length_append]; exact hz
      have E7 := E6.updF Dplus hD6 hl7
      have kD : Kept (fun a => a = D) H6 (upd H6 D (.lst (accV ++ [v]))) := .updL hD6
      have hO : ∀ a, a = D → WW (G.plus D) δ6 σ4 a := fun a e => by rw [e]; exact .inl Dplus
      have Y := X2.trans X26
      refine fin E7 (ok.mv _ _ _ _ _ (keepP X26) kD hO fun a z => .inl z) ⟨⟨fun a o h n no => ?_, fun a cl dx fs k h i => ?_⟩, fun a n => ?_, Y.own⟩ upd_same ((((X26.repL r2).append (RepL.one rv))).move kD hO fun a z => .inl z) (by rw [List.length_append]; exact Nat.succ_le_succ l2) e2
      · rw [upd_ne (ne_of_none h hD)]
        exact Y.kp.kp a o h n no
      · rw [upd_ne (ne_of_none h hD)]
        exact Y.kp.hs a cl dx fs k h i
      · by_cases e : a = D
        · rw [e, upd_same]; exact fun z => nomatch z
        · rw [upd_ne e]; exact Y.th a n
  · have e : i = ds.length := by omega
    subst e
    refine .inl ⟨ok.stop _ H2 _ q2 (Nat.le_refl _), ?_⟩
    rw [List.drop_length] at e2
    unfold lcD at e2
    cases e2
    dsimp only at p1
    split at p1
    · rename_i hno2
      have X12 : Ext δ1 σ H1 δF (wipe σ vs) H2 := (Ext.wiped hno).1.trans X2
      obtain ⟨E3, o3⟩ := ERel.unwiped hv E1 hno E2 hno2 (fun a z => .inl z) rfl (fun _ z => z) X12 (fun a (z : G.F a ∨ a = D) => z.imp id fun q => by rw [q]; exact hD) E2.ol
      have X13 : Ext δ1 σ H1 (backD δ1 vs δF) σ H2 := ⟨X12.kp, X12.th, fun a z => X12.own a (o3 a z)⟩
      have w3 : ∀ a, WW (G.plus D) (backD δ1 vs δF) σ a → WW (G.plus D) δF (wipe σ vs) a := fun a z => z.elim .inl fun q => .inr (o3 a q)
      have r3 : RepL C (WW (G.plus D) (backD δ1 vs δF) σ) H2 accV accF := r2.weak w3
      have f : FreshV C G (backD δ1 vs δF) σ H2 (.ref D) (.list accF) := ⟨D, accV, accF, rfl, rfl, fun z => E1.ol D z hD, fun z => E1.fl D z hD, hD2, r3, E3⟩
      exact p1 H2 E3.less X13 (.ref D) f.rep fun _ => ⟨f, fun a z => by cases z; exact .inl hD⟩
    · exact (show False from p1).elim
end
section
variable {C : Ct} {W : WX} {G : Gh} {X : Cx} {io ts : List Nat} {gi : Sl → R Sl (List PyData)} {tgt : PyData → Bool → Sl → Option Sl} {gt : Sl → R Sl Bool} {ge : Sl → EV}
theorem ptsd_nil : PTs X [] (tT C W G gYes) := ⟨fun pins s σ H Q I ⟨δ, E, p⟩ => pts_nil.run pins s σ H Q I (p H E Ext.refl)⟩
theorem pd_lcS {elt tg iter : Expr} {ifs : List Expr} {scope : Scope} {own : List (Str × Nat)} {pos : Pos} (hio : G.io = io) (hts : ∀ i ∈ ts, i ∈ own.map (·.2)) (hv : ∀ i ∈ own.map (·.2), i + 1000 ∉ G.io) (hc : X.calm = true) (hN : X.N.Nodup) (hi : PI X tg iter (tI C W G gi)) (ok : BlkOk X.N X.env.scope scope own)
    (hg : ∀ (s : Shared) (H : Hp) (Ca : Addr) (cl : List (Str × Addr)) (fp : List Addr) (G' : Gh), G'.io = io → G'.iv = G.iv → PG (X.blk s H scope (compEnvC scope cl Ca X.env) fp) tg (tG C G' ts tgt))
    (ht : ∀ (s : Shared) (H : Hp) (Ca : Addr) (cl : List (Str × Addr)) (fp : List Addr) (G' : Gh), G'.io = io → G'.iv = G.iv → PTs (X.blk s H scope (compEnvC scope cl Ca X.env) fp) ifs (tT C W0 G' gt))
    (he : ∀ (s : Shared) (H : Hp) (Ca : Addr) (cl : List (Str × Addr)) (fp : List Addr) (G' : Gh), G'.io = io → G'.iv = G.iv → PE (X.blk s H scope (compEnvC scope cl Ca X.env) fp) elt (tD C W0 G' ge)) (hs : ∀ x, foldedSetIterable iter X.env x = pure x := by intro _; rfl) :
    PE X (.ListComp elt [⟨tg, iter, ifs, 0⟩] scope pos) (tD C W G (gLc (own.map (·.2)) gi tgt gt ge)) :=
  PE.imp (pe_lc (g := tGx C io G.iv ts tgt) (tt := tTx C io G.iv gt) (te := tDx C io G.iv ge) hc hN hi ok (fun s H Ca cl fp => ⟨fun pins s' σ H' v u Q I r ⟨G', h1, h3, h2⟩ => (hg s H Ca cl fp G' h1 h3).run pins s' σ H' v u Q I r h2⟩)
    (fun s H Ca cl fp => ⟨fun pins s' σ H' Q I ⟨G', h1, h3, h2⟩ => (ht s H Ca cl fp G' h1 h3).run pins s' σ H' Q I h2⟩) (fun s H Ca cl fp => ⟨fun pins s' σ H' Q I ⟨G', h1, h3, h2⟩ => (he s H Ca cl fp G' h1 h3).run pins s' σ H' Q I h2⟩) hs) fun σ H Q h => tLc_ok hio hts hv Q h
theorem pd_lc {elt tg iter : Expr} {ifs : List Expr} {scope : Scope} {own : List (Str × Nat)} {pos : Pos} (hio : G.io = io) (hts : ∀ i ∈ ts, i ∈ own.map (·.2)) (hv : ∀ i ∈ own.map (·.2), i + 1000 ∉ G.io) (hc : X.calm = true) (hN : X.N.Nodup) (hi : PI X tg iter (tI C W G gi)) (ok : BlkOk X.N X.env.scope scope own)
    (hg : ∀ (s : Shared) (H : Hp) (Ca : Addr) (cl : List (Str × Addr)) (fp : List Addr) (G' : Gh), G'.io = io → PG (X.blk s H scope (compEnvC scope cl Ca X.env) fp) tg (tG C G' ts tgt))
    (ht : ∀ (s : Shared) (H : Hp) (Ca : Addr) (cl : List (Str × Addr)) (fp : List Addr) (G' : Gh), G'.io = io → PTs (X.blk s H scope (compEnvC scope cl Ca X.env) fp) ifs (tT C W0 G' gt))
    (he : ∀ (s : Shared) (H : Hp) (Ca : Addr) (cl : List (Str × Addr)) (fp : List Addr) (G' : Gh), G'.io = io → PE (X.blk s H scope (compEnvC scope cl Ca X.env) fp) elt (tD C W0 G' ge)) (hs : ∀ x, foldedSetIterable iter X.env x = pure x := by intro _; rfl) :
    PE X (.ListComp elt [⟨tg, iter, ifs, 0⟩] scope pos) (tD C W G (gLc (own.map (·.2)) gi tgt gt ge)) := pd_lcS hio hts hv hc hN hi ok (fun s H Ca cl fp G' h _ => hg s H Ca cl fp G' h) (fun s H Ca cl fp G' h _ => ht s H Ca cl fp G' h) (fun s H Ca cl fp G' h _ => he s H Ca cl fp G' h) hs
/-- name = [..] -/
theorem psd_setLcS {i : Nat} {y : Str} {py : Pos} {elt tg iter : Expr} {ifs : List Expr} {scope : Scope} {own : List (Str × Nat)} {pos spos : Pos} (hio : G.io = io) (hts : ∀ i ∈ ts, i ∈ own.map (·.2)) (hv : ∀ i ∈ own.map (·.2), i + 1000 ∉ G.io) (hc : X.calm = true) (hN : X.N.Nodup) (hy : X.N[i]? = some y) (hyl : X.env.scope.names.lookup y = some .local)
    (hsw : swapsWith (.ListComp elt [⟨tg, iter, ifs, 0⟩] scope pos) (some (.Name y py)) spos.line X.env = pure true) (hi : PI X tg iter (tI C W G gi)) (ok : BlkOk X.N X.env.scope scope own)
    (hg : ∀ (s : Shared) (H : Hp) (Ca : Addr) (cl : List (Str × Addr)) (fp : List Addr) (G' : Gh), G'.io = io → G'.iv = G.iv → PG (X.blk s H scope (compEnvC scope cl Ca X.env) fp) tg (tG C G' ts tgt))
    (ht : ∀ (s : Shared) (H : Hp) (Ca : Addr) (cl : List (Str × Addr)) (fp : List Addr) (G' : Gh), G'.io = io → G'.iv = G.iv → PTs (X.blk s H scope (compEnvC scope cl Ca X.env) fp) ifs (tT C W0 G' gt))
    (he : ∀ (s : Shared) (H : Hp) (Ca : Addr) (cl : List (Str × Addr)) (fp : List Addr) (G' : Gh), G'.io = io → G'.iv = G.iv → PE (X.blk s H scope (compEnvC scope cl Ca X.env) fp) elt (tD C W0 G' ge)) (hs : ∀ x, foldedSetIterable iter X.env x = pure x := by intro _; rfl) :
    PS X (.Assign [.Name y py] (.ListComp elt [⟨tg, iter, ifs, 0⟩] scope pos) spos) (tS C W G (sAsg (gLc (own.map (·.2)) gi tgt gt ge) (gtName G.io i))) :=
  PS.imp (ps_setLc (g := tGx C io G.iv ts tgt) (tt := tTx C io G.iv gt) (te := tDx C io G.iv ge) hc hN hy hyl hsw hi ok (fun s H Ca cl fp => ⟨fun pins s' σ H' v u Q I r ⟨G', h1, h3, h2⟩ => (hg s H Ca cl fp G' h1 h3).run pins s' σ H' v u Q I r h2⟩)
    (fun s H Ca cl fp => ⟨fun pins s' σ H' Q I ⟨G', h1, h3, h2⟩ => (ht s H Ca cl fp G' h1 h3).run pins s' σ H' Q I h2⟩) (fun s H Ca cl fp => ⟨fun pins s' σ H' Q I ⟨G', h1, h3, h2⟩ => (he s H Ca cl fp G' h1 h3).run pins s' σ H' Q I h2⟩) hs) fun D σ H h => by
    refine tLc_ok hio hts hv _ ?_
    obtain ⟨δ, E, p⟩ := tAsg_ok (ts := [i]) D σ H h
    refine ⟨δ, E, p.imp fun y δ1 H1 E1 X1 k v rv f => ?_⟩
    obtain ⟨δ0, H0, δ2, d, fr, E2, X0, r, f2, k2⟩ := k v rv f
    show D.nx (σ.set i (some v)) H1
    unfold gtName setSlot at k2
    split at k2
    · exact k2.elim
    · rename_i hn
      rw [Bool.or_eq_true, not_or] at hn
      have hi' : i < δ2.length := by
        have := hn.2
        simp at this
        exact this
      have hio : i ∉ G.io := by simpa using hn.1
      obtain ⟨E', o⟩ := E2.store hi' hio r fun z => (f2 z).1
      refine k2 _ _ E' ⟨X0.kp, X0.th, fun a z => ?_⟩ OffT.set fun j hj => .inl (by simp; exact fun e => hio (e ▸ hj))
      rcases o a z with q | ⟨q1, q2⟩
      · exact X0.own a q
      · exact ((f2 q1).2 a q2).symm
theorem psd_setLc {i : Nat} {y : Str} {py : Pos} {elt tg iter : Expr} {ifs : List Expr} {scope : Scope} {own : List (Str × Nat)} {pos spos : Pos} (hio : G.io = io) (hts : ∀ i ∈ ts, i ∈ own.map (·.2)) (hv : ∀ i ∈ own.map (·.2), i + 1000 ∉ G.io) (hc : X.calm = true) (hN : X.N.Nodup) (hy : X.N[i]? = some y) (hyl : X.env.scope.names.lookup y = some .local)
    (hsw : swapsWith (.ListComp elt [⟨tg, iter, ifs, 0⟩] scope pos) (some (.Name y py)) spos.line X.env = pure true) (hi : PI X tg iter (tI C W G gi)) (ok : BlkOk X.N X.env.scope scope own)
    (hg : ∀ (s : Shared) (H : Hp) (Ca : Addr) (cl : List (Str × Addr)) (fp : List Addr) (G' : Gh), G'.io = io → PG (X.blk s H scope (compEnvC scope cl Ca X.env) fp) tg (tG C G' ts tgt))
    (ht : ∀ (s : Shared) (H : Hp) (Ca : Addr) (cl : List (Str × Addr)) (fp : List Addr) (G' : Gh), G'.io = io → PTs (X.blk s H scope (compEnvC scope cl Ca X.env) fp) ifs (tT C W0 G' gt))
    (he : ∀ (s : Shared) (H : Hp) (Ca : Addr) (cl : List (Str × Addr)) (fp : List Addr) (G' : Gh), G'.io = io → PE (X.blk s H scope (compEnvC scope cl Ca X.env) fp) elt (tD C W0 G' ge)) (hs : ∀ x, foldedSetIterable iter X.env x = pure x := by intro _; rfl) :
    PS X (.Assign [.Name y py] (.ListComp elt [⟨tg, iter, ifs, 0⟩] scope pos) spos) (tS C W G (sAsg (gLc (own.map (·.2)) gi tgt gt ge) (gtName G.io i))) := psd_setLcS hio hts hv hc hN hy hyl hsw hi ok (fun s H Ca cl fp G' h _ => hg s H Ca cl fp G' h) (fun s H Ca cl fp G' h _ => ht s H Ca cl fp G' h) (fun s H Ca cl fp G' h _ => he s H Ca cl fp G' h) hs
end
end DL
namespace DL
open PySem PySem.Spec L2
open PyProof.Rows hiding St
section
variable {C : Ct} {W : WX} {G : Gh} {δ δ1 : Sl} {σ : St} {H H1 : Hp} {X : Cx} {a b e : Expr} {ga gb : Sl → EV} {pos : Pos}
theorem own_upd {i : Nat} {d : PyData} {e : PyData} (hi : δ[i]? = some (some (true, d))) : ∀ b, Own (δ.set i (some (true, e))) σ b ↔ Own δ σ b := fun b => by
  have hl : i < δ.length := (List.getElem?_eq_some_iff.mp hi).1
  constructor
  · rintro ⟨j, d', h1, h2⟩
    by_cases q : i = j
    · subst q; exact ⟨i, d, hi, h2⟩
    · rw [List.getElem?_set_ne q] at h1; exact ⟨j, d', h1, h2⟩
  · rintro ⟨j, d', h1, h2⟩
    by_cases q : i = j
    · subst q; exact ⟨i, e, List.getElem?_set_self hl, h2⟩
    · exact ⟨j, d', by rw [List.getElem?_set_ne q]; exact h1, h2⟩
theorem ERel.updOwn {i : Nat} {p : Addr} {xs ys : List V} {ds es : List PyData} (E : ERel C G δ σ H) (hi : δ[i]? = some (some (true, .list ds))) (hs : σ[i]? = some (some (.ref p))) (hp : H p = some (.lst xs)) (hl : ys.length ≤ sizeLine) (r : RepL C (WW G δ σ) H ys es) :
    ERel C G (δ.set i (some (true, .list es))) σ (upd H p (.lst ys)) ∧ Ext δ σ H (δ.set i (some (true, .list es))) σ (upd H p (.lst ys)) := by
  have hil : i < δ.length := (List.getElem?_eq_some_iff.mp hi).1
  have o := fun b => own_upd (σ := σ) (e := PyData.list es) hi b
  have ww : ∀ b, WW G (δ.set i (some (true, PyData.list es))) σ b → WW G δ σ b := fun b z => z.elim .inl fun q => .inr ((o b).mp q)
  have op : Own δ σ p := ⟨i, _, hi, hs⟩
  have k : Kept (fun a => a = p) H (upd H p (.lst ys)) := .updL hp
  have hO : ∀ a, a = p → WW G δ σ a := fun a e => by rw [e]; exact .inr op
  obtain ⟨_, _, _, q1, _, _, _, q2, q3⟩ := E.ow i _ hi
  rw [hs] at q1; cases q1
  refine ⟨⟨by rw [List.length_set]; exact E.len, fun j d h => ?_, fun j d h => ?_, fun j j' a dj dk g1 g2 g3 g4 => ?_, fun a z => ?_, fun a z => ?_, fun a zs z => ?_, G.ivs C _ _ _ _ _ _ E.iv (.upd (.inr ⟨_, hp, fun z => z⟩)) (G.set (E.ng hi)) fun v d r => r.move k hO fun a z => .inl (ww a z)⟩, ⟨⟨fun a o h n no => k.kp a o h (fun e => n (by rw [e]; exact op)) no, k.hs⟩, fun a z => ?_, fun a z => .inl ((o a).mp z)⟩⟩
  · by_cases q : i = j
    · subst q
      rw [List.getElem?_set_self hil] at h; cases h
    · rw [List.getElem?_set_ne q] at h
      obtain ⟨v, h1, h2⟩ := E.sh j d h
      exact ⟨v, h1, h2.move k hO fun a z => .inl (ww a z)⟩
  · by_cases q : i = j
    · subst q
      rw [List.getElem?_set_self hil] at h; cases h
      exact ⟨p, ys, es, hs, rfl, upd_same, r.move k hO fun a z => .inl (ww a z), q2, q3⟩
    · rw [List.getElem?_set_ne q] at h
      obtain ⟨b, zs, ds', h1, h2, h3, h4, h5⟩ := E.ow j d h
      have nb : b ≠ p := fun e => q (E.inj i j p _ _ hi h hs (by rw [← e]; exact h1))
      exact ⟨b, zs, ds', h1, h2, by rw [upd_ne nb]; exact h3, h4.move k hO fun a z => .inl (ww a z), h5⟩
  · have key : ∀ {j d}, (δ.set i (some (true, PyData.list es)))[j]? = some (some (true, d)) → ∃ d', δ[j]? = some (some (true, d')) := fun {j d} g => by
      by_cases q : i = j
      · subst q; exact ⟨_, hi⟩
      · rw [List.getElem?_set_ne q] at g; exact ⟨d, g⟩
    obtain ⟨d1, z1⟩ := key g1
    obtain ⟨d2, z2⟩ := key g2
    exact E.inj j j' a d1 d2 z1 z2 g3 g4
  · by_cases e : a = p
    · rw [e, upd_same]; exact fun z => nomatch z
    · rw [upd_ne e]; exact E.fl a z
  · by_cases e : a = p
    · rw [e, upd_same]; exact fun z => nomatch z
    · rw [upd_ne e]; exact E.ol a z
  · by_cases e : a = p
    · rw [e, upd_same] at z; cases z; exact hl
    · rw [upd_ne e] at z; exact E.sz a zs z
  · by_cases e : a = p
    · rw [e, upd_same]; exact fun z => nomatch z
    · rw [upd_ne e]; exact z
def sAppend (i : Nat) (ga : Sl → EV) : Sl → SV := fun δ => match δ[i]? with
  | some (some (true, .list _)) => (ga δ).bind fun x δ1 => match δ1[i]? with
    | some (some (true, .list ds)) => if ds.length < LINE then .ok .nx (δ1.set i (some (true, .list (ds ++ [x.1])))) else .stk
    | _ => .stk
  | _ => .stk
theorem psd_append {i : Nat} {x : Str} {apos pos' pos2 : Pos} (ha : PE X a (tD C W G ga)) (hx : PE X (.Name x pos') (tVar i)) (hp : PE X (.Call (.Attribute (.Name x pos') "append" apos) [a] [] pos) (tBM X.K "list" rAppend (tVar i) (tCons (tD C W G ga) tNil)))
    (hs : swapsWith (.Call (.Attribute (.Name x pos') "append" apos) [a] [] pos) none pos2.line X.env = pure false := by rfl) : PS X (.Expr (.Call (.Attribute (.Name x pos') "append" apos) [a] [] pos) pos2) (tS C W G (sAppend i ga)) :=
  PS.imp (ps_expr hp hs) fun D σ H ⟨δ, E, p⟩ => by
    unfold sAppend at p
    split at p
    · rename_i ds0 h0
      obtain ⟨l, xs0, ds, h1, h2, h3, h4, _⟩ := E.ow i _ h0
      refine ⟨_, h1, .inl ⟨rfl, _, SqL.of h3⟩, δ, E, (PostS.bindE p).imp fun y δ1 H1 E1 X1 p1 v rv _ => ?_⟩
      split at p1
      · rename_i ds1 h1'
        obtain ⟨l', xs1, ds1', g1, g2, g3, g4, _⟩ := E1.ow i _ h1'
        rw [h1] at g1; cases g1; cases g2
        split at p1
        · rename_i hl
          rw [line_eq, ← g4.length] at hl
          obtain ⟨E2, X2⟩ := E1.updOwn h1' h1 g3 (ys := xs1 ++ [v]) (es := ds1 ++ [y.1]) (by rw [List.length_append]; exact hl) (g4.append (RepL.one rv))
          exact ⟨l, xs1, v, rfl, rfl, g3, hl, p1 _ _ E2 X2 IoK.refl⟩
        · exact (show False from p1).elim
      · exact (show False from p1).elim
    · exact (show False from p).elim
/-- name[k] = e -/
def sSetIx (i : Nat) (ga gb : Sl → EV) : Sl → SV := fun δ => (ga δ).bind fun x δ1 => match δ1[i]? with
  | some (some (true, .list _)) => (gb δ1).bind fun y δ2 => match δ2[i]?, y.1 with
    | some (some (true, .list ds)), .int k => match ixN ds.length k with
      | some j => .ok .nx (δ2.set i (some (true, .list (ds.set j x.1))))
      | none => .stk
    | _, _ => .stk
  | _ => .stk
theorem psd_setIx {i : Nat} {o : Expr} {ps : Pos} (ha : PE X a (tD C W G ga)) (ho : PE X o (tVar i)) (hb : PE X b (tD C W G gb)) (hp : PS X (.Assign [.Subscript o b ps] a pos) (tAsg (tD C W G ga) (gSub (tVar i) (tD C W G gb) rSetL))) : PS X (.Assign [.Subscript o b ps] a pos) (tS C W G (sSetIx i ga gb)) :=
  PS.imp hp fun D σ H ⟨δ, E, p⟩ => ⟨δ, E, (PostS.bindE p).imp fun x δ1 H1 E1 X1 p1 v rv _ => by
    split at p1
    · rename_i ds0 h0
      obtain ⟨l, xs0, ds, h1, h2, h3, h4, _⟩ := E1.ow i _ h0
      refine ⟨_, h1, δ1, E1, (PostS.bindE p1).imp fun y δ2 H2 E2 X2 p2 w rw _ => ?_⟩
      split at p2
      · rename_i ds1 k h1' hy
        obtain ⟨l', xs1, ds1', g1, g2, g3, g4, _⟩ := E2.ow i _ h1'
        rw [h1] at g1; cases g1; cases g2
        have rw' : Rep C (WW G δ2 σ) H2 w (.int k) := hy ▸ rw
        cases rw'
        split at p2
        · rename_i j hj
          obtain ⟨E3, X3⟩ := E2.updOwn h1' h1 g3 (ys := xs1.set j v) (es := ds1.set j x.1) (by rw [List.length_set]; exact E2.sz _ _ g3) (RepL.set (X2.rep rv) j g4)
          exact ⟨l, xs1, k, j, rfl, rfl, g3, by rw [g4.length]; exact hj, p2 _ _ E3 X3 IoK.refl⟩
        · exact (show False from p2).elim
      · exact (show False from p2).elim
    · exact (show False from p1).elim⟩
end
def IoA (io : List Nat) (vs : List V) (a : Addr) : Prop := ∃ i ∈ io, vs[i]? = some (.ref a)
def WC (F : Addr → Prop) (io : List Nat) (vs : List V) (a : Addr) : Prop := F a ∨ IoA io vs a
structure InR (C : Ct) (F : Addr → Prop) (io : List Nat) (vs : List V) (ds : List D) (H : Hp) : Prop where
  len : vs.length = ds.length
  arg : ∀ (i : Nat) (v : V) (d : D), i ∉ io → vs[i]? = some v → ds[i]? = some d → Rep C (WC F io vs) H v d
  ioa : ∀ (i : Nat) (v : V) (d : D), i ∈ io → vs[i]? = some v → ds[i]? = some d → ∃ a xs es, v = .ref a ∧ d = .list es ∧ H a = some (.lst xs) ∧ RepL C (WC F io vs) H xs es ∧ ¬ F a
  inj : ∀ (i j : Nat) (a : Addr), i ∈ io → j ∈ io → vs[i]? = some (.ref a) → vs[j]? = some (.ref a) → i = j
  fl : ∀ a, F a → H a ≠ none
  sz : ∀ a xs, H a = some (.lst xs) → xs.length ≤ sizeLine
def OutR (C : Ct) (W : Addr → Prop) (io : List Nat) (vs : List V) (outs : List D) (H' : Hp) : Prop :=
  outs.length = io.length ∧ ∀ (k i : Nat) (a : Addr), io[k]? = some i → vs[i]? = some (.ref a) → ∃ xs es, outs[k]? = some (.list es) ∧ H' a = some (.lst xs) ∧ RepL C W H' xs es
/-- what stands behind a call, whatever it did to objects -/
structure AftK (io : List Nat) (vs : List V) (H H' : Hp) : Prop where
  kp : Kept (IoA io vs) H H'
  th : ∀ a, H a ≠ none → H' a ≠ none
  sz : ∀ a xs, H' a = some (.lst xs) → xs.length ≤ sizeLine
structure Aft (C : Ct) (F : Addr → Prop) (io : List Nat) (vs : List V) (H H' : Hp) (outs : List D) : Prop where
  kp : Kept (IoA io vs) H H'
  th : ∀ a, H a ≠ none → H' a ≠ none
  sz : ∀ a xs, H' a = some (.lst xs) → xs.length ≤ sizeLine
  out : OutR C (WC F io vs) io vs outs H'
  pl : PL H H'
theorem Aft.k {C : Ct} {F : Addr → Prop} {io : List Nat} {vs : List V} {H H' : Hp} {outs : List D} (a : Aft C F io vs H H' outs) : AftK io vs H H' := ⟨a.kp, a.th, a.sz⟩
def FrL (C : Ct) (F : Addr → Prop) (io : List Nat) (vs : List V) (H : Hp) (outs : List D) (v : V) (d : D) (H' : Hp) : Prop :=
  (∃ a xs es, v = .ref a ∧ d = .list es ∧ H a = none ∧ H' a = some (.lst xs) ∧ RepL C (fun b => WC F io vs b ∨ b = a) H' xs es ∧ OutR C (fun b => WC F io vs b ∨ b = a) io vs outs H') ∨
  (∃ t n a xs es, v = .ref t ∧ d = .tuple [.int n, .list es] ∧ SqT C.K H' t [.int n, .ref a] ∧ H a = none ∧ H' a = some (.lst xs) ∧ RepL C (fun b => WC F io vs b ∨ b = a) H' xs es ∧ OutR C (fun b => WC F io vs b ∨ b = a) io vs outs H')
def PostF (C : Ct) (F : Addr → Prop) (io : List Nat) (vs : List V) (H : Hp) (Q : VK) (E : XK) (r : R (List D) (D × Bool)) : Prop := match r with
  | .ok p outs => ∀ v H', Aft C F io vs H H' outs → Rep C (WC F io vs) H' v p.1 →
      (p.2 = true → FrL C F io vs H outs v p.1 H') → Q v H'
  | .exc c xs outs => ∀ cls dct H', Aft C F io vs H H' outs → ExcV C (WC F io vs) H' cls dct c xs → E cls dct H'
  | .stk => False
def spD (C : Ct) (io : List Nat) (n : Nat) (f : List D → R (List D) (D × Bool)) : Sp := fun vs H Q E => ∃ ds F, vs.length = n ∧ InR C F io vs ds H ∧ PostF C F io vs H Q E (f ds)
abbrev It1 := Sum D Nat
def kJ (C : Ct) (G : Gh) (σ : St) (Q : List V → Hp → Prop) : List It1 → Sl → Hp → Prop := fun its δ' H' => ∀ vs, Paired (fun (v : V) (t : It1) => match t with
  | .inl d => Rep C (WW G δ' σ) H' v d
  | .inr j => σ[j]? = some (some v)) vs its → Q vs H'
def tJ (C : Ct) (W : WX) (G : Gh) (g : Sl → R Sl (List It1)) : TA := fun σ H Q => ∃ δ, ERel C G δ σ H ∧ Post C W G δ σ H (kJ C G σ Q) (g δ)
def gjNil : Sl → R Sl (List It1) := fun δ => .ok [] δ
def gjVal (ga : Sl → EV) (gr : Sl → R Sl (List It1)) : Sl → R Sl (List It1) := fun δ => (ga δ).bind fun x δ1 => (gr δ1).bind fun xs δ2 => .ok (.inl x.1 :: xs) δ2
def gjIo (j : Nat) (gr : Sl → R Sl (List It1)) : Sl → R Sl (List It1) := fun δ => match δ[j]? with
  | some (some (true, _)) => (gr δ).bind fun xs δ2 => .ok (.inr j :: xs) δ2
  | _ => .stk
/-- the data of the arguments -/
def itD (δ : Sl) : List It1 → Option (List D)
  | [] => some []
  | .inl d :: r => (itD δ r).map (d :: ·)
  | .inr j :: r => match δ[j]? with
    | some (some (true, d)) => (itD δ r).map (d :: ·)
    | _ => none
def itJ : List It1 → List Nat
  | [] => []
  | .inl _ :: r => itJ r
  | .inr j :: r => j :: itJ r
/-- the places of the slots among the arguments -/
def itP : Nat → List It1 → List Nat
  | _, [] => []
  | k, .inl _ :: r => itP (k + 1) r
  | k, .inr _ :: r => k :: itP (k + 1) r
def setMany (δ : Sl) : List Nat → List D → Sl
  | j :: js, o :: os => setMany (δ.set j (some (true, o))) js os
  | _, _ => δ
def nodupB : List Nat → Bool
  | [] => true
  | j :: js => !js.contains j && nodupB js
/-- a pair is not told fresh behind a call -/
def fixF (p : D × Bool) : D × Bool := match p.1 with
  | .tuple _ => (p.1, false)
  | _ => p
theorem fixF_1 (p : D × Bool) : (fixF p).1 = p.1 := by unfold fixF; split <;> rfl
theorem fixF_2 {p : D × Bool} (h : (fixF p).2 = true) : fixF p = p ∧ p.2 = true ∧ ∀ xs, p.1 ≠ .tuple xs := by
  unfold fixF at h ⊢
  split at h
  · cases h
  · rename_i q
    exact ⟨rfl, h, q⟩
def gDef (f : List D → R (List D) (D × Bool)) (io : List Nat) (gi : Sl → R Sl (List It1)) : Sl → EV := fun δ => (gi δ).bind fun its δ1 =>
  if itP 0 its == io && nodupB (itJ its) then match itD δ1 its with
    | some ds => match f ds with
      | .ok p outs => .ok (fixF p) (setMany δ1 (itJ its) outs)
      | .exc c xs outs => .exc c xs (setMany δ1 (itJ its) outs)
      | .stk => .stk
    | none => .stk
  else .stk
section
variable {C : Ct} {W : WX} {G : Gh} {δ δ1 : Sl} {σ : St} {H H1 : Hp} {X : Cx} {a b e : Expr} {es : List Expr} {ga gb : Sl → EV} {gr : Sl → R Sl (List It1)} {pos : Pos}
theorem pjd_nil : PA X [] (tJ C W G gjNil) := PA.imp pa_nil fun σ H Q ⟨δ, E, p⟩ => p H E Ext.refl [] .nil
theorem pjd_val (ha : PE X e (tD C W G ga)) (hr : PA X es (tJ C W G gr)) (hs : starEach (e :: es) X.env = (false, eval e X.env) :: starEach es X.env := by rfl) : PA X (e :: es) (tJ C W G (gjVal ga gr)) := PA.imp (pa_cons ha hr hs) fun σ H Q ⟨δ, E, p⟩ =>
  ⟨δ, E, (Post.bind p).imp fun x δ1 H1 E1 X1 p1 v rv _ => ⟨δ1, E1, (Post.bind p1).imp fun y δ2 H2 E2 X2 p2 vs rs => p2 H2 E2 Ext.refl (v :: vs) (.cons (X2.rep rv) rs)⟩⟩
theorem pjd_io {j : Nat} {x : Str} {pos' : Pos} (ha : PE X (.Name x pos') (tVar j)) (hr : PA X es (tJ C W G gr)) (hs : starEach (.Name x pos' :: es) X.env = (false, eval (.Name x pos') X.env) :: starEach es X.env := by rfl) : PA X (.Name x pos' :: es) (tJ C W G (gjIo j gr)) := PA.imp (pa_cons ha hr hs) fun σ H Q ⟨δ, E, p⟩ => by
  unfold gjIo at p
  split at p
  · rename_i d h
    obtain ⟨a, xs, ds, h1, _⟩ := E.ow j d h
    exact ⟨_, h1, δ, E, (Post.bind p).imp fun y δ2 H2 E2 X2 p2 vs rs => p2 H2 E2 Ext.refl (.ref a :: vs) (.cons h1 rs)⟩
  · exact p.elim
end
end DL
namespace DL
open PySem PySem.Spec L2
open PyProof.Rows hiding St
theorem itP_ge : ∀ (its : List It1) (k0 k i : Nat), (itP k0 its)[k]? = some i → k0 ≤ i ∧ ∃ j, (itJ its)[k]? = some j ∧ its[i - k0]? = some (Sum.inr j)
  | [], _, _, _, h => by simp [itP] at h
  | .inl d :: r, k0, k, i, h => by
    obtain ⟨h1, j, h2, h3⟩ := itP_ge r (k0 + 1) k i h
    refine ⟨by omega, j, h2, ?_⟩
    rw [show i - k0 = (i - (k0 + 1)) + 1 by omega]
    exact h3
  | .inr j :: r, k0, 0, i, h => by
    have e : k0 = i := by simpa [itP] using h
    subst e
    exact ⟨Nat.le_refl _, j, rfl, by rw [Nat.sub_self]; rfl⟩
  | .inr j0 :: r, k0, k + 1, i, h => by
    obtain ⟨h1, j, h2, h3⟩ := itP_ge r (k0 + 1) k i (by simpa [itP] using h)
    refine ⟨by omega, j, h2, ?_⟩
    rw [show i - k0 = (i - (k0 + 1)) + 1 by omega]
    exact h3
theorem itP_at : ∀ (its : List It1) (k0 i j : Nat), its[i]? = some (Sum.inr j) → ∃ k : Nat, (itP k0 its)[k]? = some (k0 + i) ∧ (itJ its)[k]? = some j
  | [], _, _, _, h => by simp at h
  | .inl d :: r, k0, 0, j, h => by simp at h
  | .inl d :: r, k0, i + 1, j, h => by
    obtain ⟨k, h1, h2⟩ := itP_at r (k0 + 1) i j (by simpa using h)
    exact ⟨k, by rw [show k0 + (i + 1) = k0 + 1 + i by omega]; exact h1, h2⟩
  | .inr j0 :: r, k0, 0, j, h => by
    have e : j0 = j := by simpa using h
    subst e
    exact ⟨0, rfl, rfl⟩
  | .inr j0 :: r, k0, i + 1, j, h => by
    obtain ⟨k, h1, h2⟩ := itP_at r (k0 + 1) i j (by simpa using h)
    exact ⟨k + 1, by rw [show k0 + (i + 1) = k0 + 1 + i by omega]; exact h1, h2⟩
theorem itP_len : ∀ (its : List It1) (k0 : Nat), (itP k0 its).length = (itJ its).length
  | [], _ => rfl
  | .inl d :: r, k0 => itP_len r (k0 + 1)
  | .inr j :: r, k0 => by simp [itP, itJ, itP_len r (k0 + 1)]
theorem itD_at {δ : Sl} : ∀ (its : List It1) (ds : List D), itD δ its = some ds → its.length = ds.length ∧ (∀ (i : Nat) (d : D), its[i]? = some (Sum.inl d) → ds[i]? = some d) ∧ ∀ (i j : Nat), its[i]? = some (Sum.inr j) → ∃ d : D, δ[j]? = some (some (true, d)) ∧ ds[i]? = some d
  | [], ds, h => by cases h; exact ⟨rfl, by simp, by simp⟩
  | .inl d :: r, ds, h => by
    unfold itD at h
    cases q : itD δ r with
    | none => rw [q] at h; cases h
    | some es =>
      rw [q] at h; cases h
      obtain ⟨h1, h2, h3⟩ := itD_at r es q
      refine ⟨by simp [h1], fun i e hi => ?_, fun i j hi => ?_⟩
      · cases i with
        | zero => have z : d = e := by simpa using hi
                  subst z; rfl
        | succ i => exact h2 i e (by simpa using hi)
      · cases i with
        | zero => simp at hi
        | succ i => exact h3 i j (by simpa using hi)
  | .inr j0 :: r, ds, h => by
    unfold itD at h
    split at h
    · rename_i d0 hd
      cases q : itD δ r with
      | none => rw [q] at h; cases h
      | some es =>
        rw [q] at h; cases h
        obtain ⟨h1, h2, h3⟩ := itD_at r es q
        refine ⟨by simp [h1], fun i e hi => ?_, fun i j hi => ?_⟩
        · cases i with
          | zero => simp at hi
          | succ i => exact h2 i e (by simpa using hi)
        · cases i with
          | zero => have z : j0 = j := by simpa using hi
                    subst z; exact ⟨d0, hd, rfl⟩
          | succ i => exact h3 i j (by simpa using hi)
    · cases h
theorem nodupB_ok : ∀ (js : List Nat), nodupB js = true → js.Nodup
  | [], _ => List.nodup_nil
  | j :: js, h => by
    unfold nodupB at h
    rw [Bool.and_eq_true] at h
    exact List.nodup_cons.mpr ⟨by simpa using h.1, nodupB_ok js h.2⟩
theorem setMany_len : ∀ (js : List Nat) (os : List D) (δ : Sl), (setMany δ js os).length = δ.length
  | [], _, _ => by simp [setMany]
  | _ :: _, [], _ => rfl
  | j :: js, o :: os, δ => by
    unfold setMany
    rw [setMany_len js os, List.length_set]
theorem setMany_off : ∀ (js : List Nat) (os : List D) (δ : Sl) (i : Nat), i ∉ js → (setMany δ js os)[i]? = δ[i]?
  | [], _, _, _, _ => by simp [setMany]
  | _ :: _, [], _, _, _ => rfl
  | j :: js, o :: os, δ, i, h => by
    simp only [List.mem_cons, not_or] at h
    unfold setMany
    rw [setMany_off js os _ i h.2, List.getElem?_set_ne fun e => h.1 e.symm]
theorem setMany_on : ∀ (js : List Nat) (os : List D) (δ : Sl) (k j : Nat) (o : D), js.Nodup → js[k]? = some j → os[k]? = some o → j < δ.length → (setMany δ js os)[j]? = some (some (true, o))
  | [], _, _, _, _, _, _, h, _, _ => by simp at h
  | _ :: _, [], _, _, _, _, _, _, h, _ => by simp at h
  | j0 :: js, o0 :: os, δ, 0, j, o, nd, h1, h2, hl => by
    have e1 : j0 = j := by simpa using h1
    have e2 : o0 = o := by simpa using h2
    subst e1 e2
    unfold setMany
    rw [setMany_off js os _ j0 (List.nodup_cons.mp nd).1, List.getElem?_set_self hl]
  | j0 :: js, o0 :: os, δ, k + 1, j, o, nd, h1, h2, hl => by
    unfold setMany
    exact setMany_on js os _ k j o (List.nodup_cons.mp nd).2 (by simpa using h1) (by simpa using h2) (by rw [List.length_set]; exact hl)
section
variable {C : Ct} {W : WX} {G : Gh} {δ δ1 : Sl} {σ : St} {H H1 H' : Hp} {X : Cx} {its : List It1} {vs : List V} {ds outs : List D} {io : List Nat}
abbrev ItR (C : Ct) (G : Gh) (δ : Sl) (σ : St) (H : Hp) : List V → List It1 → Prop := Paired (fun (v : V) (t : It1) => match t with
  | .inl d => Rep C (WW G δ σ) H v d
  | .inr j => σ[j]? = some (some v))
theorem paired_len {α β : Type} {R : α → β → Prop} : ∀ {xs : List α} {ys : List β}, Paired R xs ys → xs.length = ys.length := fun h => Paired.length h
theorem paired_get {α β : Type} {R : α → β → Prop} : ∀ {xs : List α} {ys : List β} {i : Nat} {y : β}, Paired R xs ys → ys[i]? = some y → ∃ x, xs[i]? = some x ∧ R x y
  | _, _, _, _, .nil, e => by simp at e
  | _, _, 0, _, .cons r _, e => by simp at e; subst e; exact ⟨_, rfl, r⟩
  | _, _, i + 1, y, .cons _ t, e => by
    obtain ⟨x, h1, h2⟩ := paired_get (i := i) (y := y) t (by simpa using e)
    exact ⟨x, by simpa using h1, h2⟩
/-- what the caller knows of the addresses that it hands over -/
structure Hand (C : Ct) (G : Gh) (δ : Sl) (σ : St) (H : Hp) (its : List It1) (vs : List V) (ds : List D) (io : List Nat) : Prop where
  E : ERel C G δ σ H
  r : ItR C G δ σ H vs its
  p : itP 0 its = io
  nd : (itJ its).Nodup
  d : itD δ its = some ds
theorem Hand.ioa (h : Hand C G δ σ H its vs ds io) {i : Nat} (hi : i ∈ io) : ∃ (k j : Nat) (a : Addr) (d : D), io[k]? = some i ∧ (itJ its)[k]? = some j ∧ its[i]? = some (Sum.inr j) ∧ σ[j]? = some (some (.ref a)) ∧ vs[i]? = some (.ref a) ∧ δ[j]? = some (some (true, d)) ∧ ds[i]? = some d := by
  obtain ⟨k, hk⟩ := List.getElem?_of_mem hi
  obtain ⟨_, j, h2, h3⟩ := itP_ge its 0 k i (by rw [h.p]; exact hk)
  rw [Nat.sub_zero] at h3
  obtain ⟨d, h4, h5⟩ := (itD_at its ds h.d).2.2 i j h3
  obtain ⟨v, h6, h7⟩ := paired_get h.r h3
  obtain ⟨a, xs, es, h8, _⟩ := h.E.ow j d h4
  have h7 : σ[j]? = some (some v) := h7
  rw [h8] at h7; cases h7
  exact ⟨k, j, a, d, hk, h2, h3, h8, h6, h4, h5⟩
theorem Hand.own (h : Hand C G δ σ H its vs ds io) {a : Addr} (z : IoA io vs a) : Own δ σ a := by
  obtain ⟨i, hi, hv⟩ := z
  obtain ⟨k, j, b, d, _, _, _, h1, h2, h3, _⟩ := h.ioa hi
  rw [hv] at h2; cases h2
  exact ⟨j, d, h3, h1⟩
def Hand.F (_ : Hand C G δ σ H its vs ds io) : Addr → Prop := fun a => WW G δ σ a ∧ ¬ IoA io vs a
theorem Hand.wc (h : Hand C G δ σ H its vs ds io) : ∀ a, WC h.F io vs a ↔ WW G δ σ a := fun a => by
  constructor
  · rintro (z | z)
    · exact z.1
    · exact .inr (h.own z)
  · intro z
    by_cases q : IoA io vs a
    · exact .inr q
    · exact .inl ⟨z, q⟩
theorem Hand.in_ (h : Hand C G δ σ H its vs ds io) : InR C h.F io vs ds H where
  len := (paired_len h.r).trans (itD_at its ds h.d).1
  arg := fun i v d hi hv hd => by
    have hl : i < its.length := by
      rw [← paired_len h.r]
      exact (List.getElem?_eq_some_iff.mp hv).1
    cases q : its[i]? with
    | none => exact absurd (List.getElem?_eq_none_iff.mp q) (by omega)
    | some t =>
      cases t with
      | inr j =>
        obtain ⟨k, h1, _⟩ := itP_at its 0 i j q
        rw [h.p, Nat.zero_add] at h1
        exact absurd (List.mem_of_getElem? h1) hi
      | inl e =>
        have h1 := (itD_at its ds h.d).2.1 i e q
        rw [hd] at h1; cases h1
        obtain ⟨v', h2, h3⟩ := paired_get h.r q
        rw [hv] at h2; cases h2
        exact Rep.weak (fun a z => (h.wc a).mp z) h3
  ioa := fun i v d hi hv hd => by
    obtain ⟨k, j, a, d', _, _, _, h1, h2, h3, h4⟩ := h.ioa hi
    rw [hv] at h2; cases h2
    rw [hd] at h4; cases h4
    obtain ⟨b, xs, es, g1, g2, g3, g4, _⟩ := h.E.ow j d h3
    rw [h1] at g1; cases g1
    exact ⟨a, xs, es, rfl, g2, g3, g4.weak fun b z => (h.wc b).mp z, fun z => z.2 ⟨i, hi, hv⟩⟩
  inj := fun i i' a hi hi' hv hv' => by
    obtain ⟨k, j, b, d, k1, k2, h0, h1, h2, h3, _⟩ := h.ioa hi
    obtain ⟨k', j', b', d', k1', k2', h0', h1', h2', h3', _⟩ := h.ioa hi'
    rw [hv] at h2; cases h2
    rw [hv'] at h2'; cases h2'
    have e := h.E.inj j j' a d d' h3 h3' h1 h1'
    subst e
    have ek : k = k' := by
      obtain ⟨hk, e1⟩ := List.getElem?_eq_some_iff.mp k2
      obtain ⟨hk', e2⟩ := List.getElem?_eq_some_iff.mp k2'
      exact (List.getElem_inj h.nd).mp (e1.trans e2.symm)
    subst ek
    rw [k1] at k1'
    exact Option.some.inj k1'
  fl := fun a z => h.E.wwH z.1
  sz := h.E.sz
/-- behind the call -/
theorem Hand.after (h : Hand C G δ σ H its vs ds io) {Wp : Addr → Prop} (af : AftK io vs H H') (G' : Gh) (hio : G'.io = G.io) (hold : ∀ a, G'.Old a ↔ G.Old a) (hF : ∀ a, G.F a → G'.F a) (hF' : ∀ a, G'.F a → G.F a ∨ H a = none)
    (hFH : ∀ a, G'.F a → H' a ≠ none) (hW : ∀ a, WW G' δ σ a → Wp a) (out : OutR C Wp io vs outs H')
    (hiv : (∀ v d, Rep C (WW G δ σ) H v d → Rep C (WW G' (setMany δ (itJ its) outs) σ) H' v d) → (∀ i, i + 1000 ∈ G.io → (setMany δ (itJ its) outs)[i]? = δ[i]?) → G'.iv C (setMany δ (itJ its) outs) (WW G' (setMany δ (itJ its) outs) σ) H') : ERel C G' (setMany δ (itJ its) outs) σ H' ∧ Ext δ σ H (setMany δ (itJ its) outs) σ H' ∧ ∀ a, Own (setMany δ (itJ its) outs) σ a ↔ Own δ σ a := by
  have ko : Kept (Own δ σ) H H' := ⟨fun a o e n no => af.kp.kp a o e (fun z => n (h.own z)) no, af.kp.hs⟩
  have jl : ∀ {j}, j ∈ itJ its → ∃ (k i : Nat) (a : Addr) (d : PyData), (itJ its)[k]? = some j ∧ io[k]? = some i ∧ σ[j]? = some (some (.ref a)) ∧ vs[i]? = some (.ref a) ∧ δ[j]? = some (some (true, d)) := fun {j} hj => by
    obtain ⟨k, hk⟩ := List.getElem?_of_mem hj
    have hk2 : k < io.length := by
      rw [← h.p, itP_len]
      exact (List.getElem?_eq_some_iff.mp hk).1
    obtain ⟨k', j', a, d, h1, h2, h3, h4, h5, h6, _⟩ := h.ioa (i := io[k]) (List.getElem_mem hk2)
    have e0 : io[k]? = some io[k] := List.getElem?_eq_getElem hk2
    obtain ⟨_, j2, q1, q2⟩ := itP_ge its 0 k io[k] (by rw [h.p]; exact e0)
    rw [Nat.sub_zero] at q2
    rw [hk] at q1; cases q1
    rw [h3] at q2; cases q2
    exact ⟨k, io[k], a, d, hk, e0, h4, h5, h6⟩
  have o : ∀ a, Own (setMany δ (itJ its) outs) σ a ↔ Own δ σ a := fun a => by
    constructor
    · rintro ⟨j, d, g1, g2⟩
      by_cases hj : j ∈ itJ its
      · obtain ⟨_, _, a', d', _, _, q1, _, q2⟩ := jl hj
        exact ⟨j, d', q2, g2⟩
      · rw [setMany_off _ _ _ _ hj] at g1
        exact ⟨j, d, g1, g2⟩
    · rintro ⟨j, d, g1, g2⟩
      by_cases hj : j ∈ itJ its
      · obtain ⟨k, i, a', d', q0, q3, q1, q4, q2⟩ := jl hj
        obtain ⟨xs, es, r1, _⟩ := out.2 k i a' q3 q4
        exact ⟨j, _, setMany_on _ _ _ k j _ h.nd q0 r1 (List.getElem?_eq_some_iff.mp g1).1, g2⟩
      · exact ⟨j, d, by rw [setMany_off _ _ _ _ hj]; exact g1, g2⟩
  have w : ∀ a, WW G' (setMany δ (itJ its) outs) σ a → WW G δ σ a ∨ H a = none := fun a z => z.elim (fun q => (hF' a q).imp .inl id) fun q => .inl (.inr ((o a).mp q))
  have w2 : ∀ a, WW G' (setMany δ (itJ its) outs) σ a → Wp a := fun a z => hW a (z.imp id (o a).mp)
  refine ⟨⟨by rw [setMany_len]; exact h.E.len, fun i d e => ?_, fun i d e => ?_, fun i j a di dj g1 g2 g3 g4 => ?_, hFH, fun a z => af.th a (h.E.ol a ((hold a).mp z)), af.sz, hiv (fun v d r => r.move ko (fun _ z => .inr z) w) fun i hi => setMany_off _ _ _ _ fun hj => by
    obtain ⟨_, _, _, d', _, _, _, _, q⟩ := jl hj
    exact h.E.ng q hi⟩, ⟨ko, af.th, fun a z => .inl ((o a).mp z)⟩, o⟩
  · by_cases hj : i ∈ itJ its
    · obtain ⟨k, i', a', d', q0, q3, q1, q4, q2⟩ := jl hj
      obtain ⟨xs, es, r1, _⟩ := out.2 k i' a' q3 q4
      rw [setMany_on _ _ _ k i _ h.nd q0 r1 (List.getElem?_eq_some_iff.mp q2).1] at e
      cases e
    · rw [setMany_off _ _ _ _ hj] at e
      obtain ⟨v, r1, r2⟩ := h.E.sh i d e
      exact ⟨v, r1, r2.move ko (fun _ z => .inr z) w⟩
  · by_cases hj : i ∈ itJ its
    · obtain ⟨k, i', a', d', q0, q3, q1, q4, q2⟩ := jl hj
      obtain ⟨xs, es, r1, r2, r3⟩ := out.2 k i' a' q3 q4
      rw [setMany_on _ _ _ k i _ h.nd q0 r1 (List.getElem?_eq_some_iff.mp q2).1] at e
      cases e
      obtain ⟨b, ys, es', g1, g2, g3, g4, g5, g6⟩ := h.E.ow i d' q2
      rw [q1] at g1; cases g1
      refine ⟨a', xs, es, q1, rfl, r2, r3.weak w2, fun z => ?_, fun n z => ?_⟩
      · rcases hF' a' z with z | z
        · exact g5 z
        · rw [g3] at z; cases z
      · rw [hio] at n
        exact g6 n ((hold a').mp z)
    · rw [setMany_off _ _ _ _ hj] at e
      obtain ⟨b, ys, es, g1, g2, g3, g4, g5, g6⟩ := h.E.ow i d e
      have nb : ¬ IoA io vs b := fun ⟨i', hi', hv⟩ => by
        obtain ⟨k, j, b', d', k1, k2, _, q1, q2, q3, _⟩ := h.ioa hi'
        rw [hv] at q2; cases q2
        have e' := h.E.inj i j b d d' e q3 g1 q1
        exact hj (by rw [e']; exact List.mem_of_getElem? k2)
      refine ⟨b, ys, es, g1, g2, af.kp.kp b _ g3 (fun z => absurd z nb), g4.move ko (fun _ z => .inr z) w, fun z => ?_, fun n z => ?_⟩
      · rcases hF' b z with z | z
        · exact g5 z
        · rw [g3] at z; cases z
      · rw [hio] at n
        exact g6 n ((hold b).mp z)
  · have key : ∀ {j d}, (setMany δ (itJ its) outs)[j]? = some (some (true, d)) → ∃ d', δ[j]? = some (some (true, d')) := fun {j d} g => by
      by_cases hj : j ∈ itJ its
      · obtain ⟨_, _, _, d', _, _, _, _, q⟩ := jl hj
        exact ⟨d', q⟩
      · rw [setMany_off _ _ _ _ hj] at g; exact ⟨d, g⟩
    obtain ⟨d1, z1⟩ := key g1
    obtain ⟨d2, z2⟩ := key g2
    exact h.E.inj i j a d1 d2 z1 z2 g3 g4
end
end DL
namespace DL
open PySem PySem.Spec L2
open PyProof.Rows hiding St
structure FnG (P : Program) (w : World) (K : PySem.W.Frag) (mg : Str → Option Value) (base : Heap) (cx : CXT) (k : Nat) (fa : Addr) (fd : FuncData) (ps : List Str) (sp : Sp) : Prop where
  len : ∀ vs H Q E, sp vs H Q E → vs.length = ps.length
  go : ∀ (B : Around) (ou : List Env) (t : Shared) (H : Hp) (ar : Args) (us : List Value) (vs : List V) (Q : VK) (E : XK), B.guards = some [] → Room k B → Env0 P w K mg base B ou t H → BindsTo t fd ar (ps.zip us) → Vals vs us → sp vs H Q E →
    codeAny (model P w) B (.call (.ref fa) ar) (CR cx ou P w H t Q E) t
theorem FnG.weak {P : Program} {w : World} {K : PySem.W.Frag} {mg : Str → Option Value} {base : Heap} {cx : CXT} {k : Nat} {fa : Addr} {fd : FuncData} {ps : List Str} {sp sp' : Sp} (F : FnG P w K mg base cx k fa fd ps sp) (h : ∀ vs H Q E, sp' vs H Q E → sp vs H Q E) : FnG P w K mg base cx k fa fd ps sp' :=
  ⟨fun vs H Q E z => F.len _ _ _ _ (h _ _ _ _ z), fun B ou t H ar us vs Q E hG hr e b r z => F.go B ou t H ar us vs Q E hG hr e b r (h _ _ _ _ z)⟩
theorem fn_body {P : Program} {w : World} {K : PySem.W.Frag} {mg : Str → Option Value} {base : Heap} {cx : CXT} {x qual : Str} {st : Stmt} {fa : Addr} {fd : FuncData} {Nm ps : List Str} {k : Nat} {sp : Sp} (Fn : Fun K x qual st fa fd) (Sc : FnScope Nm ps (defScope st)) (ln : ∀ vs H Q E, sp vs H Q E → vs.length = ps.length)
    (hb : ∀ (cdv : Value) (B : Around) (ou : List Env) (t : Shared) (H : Hp) (vs : List V) (Q : VK) (E : XK), B.guards = some [] → Room k (B.deeper (envOfC qual (defScope st) t.heap.objs.size fa cdv)) → sp vs H Q E →
      ∃ ts, PSs (cxOf cx P w K mg base Nm qual (defScope st) fa cdv B ou t H E) (defBody st) ts ∧ ts { nx := fun _ H' => Q .non H', rt := Q } (L2.start Nm vs) H) : FnG P w K mg base cx (k + 1) fa fd ps sp := by
  obtain ⟨oc, od, kV, doc, pm, an, cdv, ct, osl, hfd, lk, hcode⟩ := Fn.ex
  subst hfd
  refine ⟨ln, fun B ou t H ar us vs Q E hG hr e0 hbind rv wish => ?_⟩
  have hlen := ln _ _ _ _ wish
  have up : ∀ b o, base.get? b = some o → t.heap.get? b = some o := fun b o e => (e0.bs b o e).1
  have inK : K.In t.heap := e0.mod.kin.keeps up
  have nolim : t.heap.NoLimit := e0.mod.nolimit.keeps up
  have kinds : ∀ y ∈ ps.zip us, (defScope st).names.lookup y.1 = some .local ∨ ((defScope st).names.lookup y.1 = some .cell ∧ ((cellsFrom (t.heap.objs.size + 1) (defScope st).names []).lookup y.1).isSome = true) := fun y hy =>
    (Sc.par y.1 (List.of_mem_zip hy).1).imp id fun q => ⟨q, PySem.W.cellsFrom_some _ _ _ (.inl q)⟩
  refine codeAny_call_function hr.depth (inK _ _ lk) rfl Sc.co Sc.gen rfl (PySem.W.codeRec_of inK hcode) (hbind _ _ _ _ (wpAny_newFunctionEnv_cells Sc.kind kinds fun env he t1 xx => ?_))
  subst he
  refine ⟨nolim.keeps xx.toInCall.keep, codeAny_func ?_⟩
  obtain ⟨ts, h1, h2⟩ := hb cdv B ou t H vs Q E hG (hr.deeper _) wish
  have inv : Inv (cxOf cx P w K mg base Nm qual (defScope st) fa cdv B ou t H E) [] (L2.start Nm vs) H t1 := inv_start Sc hr.hd e0 hlen rv xx
  refine wpAny_mono (h1.run [] t1 (L2.start Nm vs) H _ inv h2) (fun fl t2 hs => ?_) fun e t2 hs => hs
  cases fl with
  | ret u => obtain ⟨v, τ, H', J, r2, q⟩ := hs; exact ⟨v, H', J.os, J.bare, J.base, J.hok, r2, q⟩
  | next => obtain ⟨τ, H', J, q⟩ := hs; exact ⟨.non, H', J.os, J.bare, J.base, J.hok, rfl, q⟩
  | brk => obtain ⟨_, _, _, q⟩ := hs; exact q.elim
  | cont => obtain ⟨_, _, _, q⟩ := hs; exact q.elim
section
variable {X : Cx} {cx : CXT} {k : Nat} {fa : Addr} {fd : FuncData} {ps : List Str} {sp : Sp} {E : St → XK} {x : Str} {p pos : Pos} {e : Expr} {es : List Expr} {t : TA}
theorem run_g {pins : List (Addr × Obj)} {σ : St} {H : Hp} {s : Shared} {Q : VK} {us : List Value} {vs : List V} (F : FnG X.prog X.w X.K X.mg X.base cx k fa fd ps sp) (hG : X.A.guards = some []) (hr : Room k X.A) (hb : Binds X.K fd ps []) (hx : PassesAt cx X σ (E σ))
    (I : Inv X pins σ H s) (rv : Vals vs us) (wish : sp vs H Q (E σ)) : wpAny (model X.prog X.w) X.A (call (.ref fa) us) (EP X pins σ Q) X.xe s := by
  have b := hb s us I.kIn (by rw [List.append_nil, ← rv.length]; exact F.len _ _ _ _ wish)
  rw [List.append_nil] at b
  refine wpAny_call (codeAny_mono (F.go X.A X.stack s H ⟨us, []⟩ us vs Q (E σ) hG hr I.env0 b rv wish) fun r s' hq => ?_)
  match r, hq with
  | .error e, hq => exact hx pins H s e s' I hq
  | .ok (.ret u), hq => exact I.after hq
theorem pe_callG (F : FnG X.prog X.w X.K X.mg X.base cx k fa fd ps sp) (hG : X.A.guards = some []) (hr : Room k X.A) (hg : Gl X x) (hm : X.mg x = some (.ref fa)) (hk : PySem.W.keepIn X.K (.ref fa) = true) (hb : Binds X.K fd ps []) (hx : ∀ σ, PassesAt cx X σ (E σ))
    (ha : PA X (e :: es) t) (hdb : (x == ("__debug__" : Str)) = false) (he : starEach (e :: es) X.env = (false, eval e X.env) :: starEach es X.env) (hpl : (backTo pos (starEach es X.env)).any (·.1) = false) : PE X (.Call (.Name x p) (e :: es) [] pos) (tCallS sp E t) :=
  ⟨fun pins s σ H Q I h => wpAny_Call_Name_kw (ld_glob I hg hm (PySem.W.callWith_K (h₀ := X.base) I.ok.mod.kin hk (thn (ha.run pos pins s σ H _ I h) fun us s1 ⟨vs, H1, I1, r, q⟩ => ⟨I1.kIn, run_g F hG hr hb (hx σ) I1 r q⟩) he hpl) hdb)⟩
theorem pe_callG0 (F : FnG X.prog X.w X.K X.mg X.base cx k fa fd [] sp) (hG : X.A.guards = some []) (hr : Room k X.A) (hg : Gl X x) (hm : X.mg x = some (.ref fa)) (hk : PySem.W.keepIn X.K (.ref fa) = true) (hb : Binds X.K fd [] []) (hx : ∀ σ, PassesAt cx X σ (E σ))
    (hdb : (x == ("__debug__" : Str)) = false) : PE X (.Call (.Name x p) [] [] pos) (fun σ H Q => sp [] H Q (E σ)) :=
  ⟨fun pins s σ H Q I h => wpAny_Call_Name_kw (ld_glob I hg hm (PySem.W.callWith_K0 I.kIn hk (run_g (us := []) F hG hr hb (hx σ) I .nil h)) hdb)⟩
end
section
variable {C : Ct} {W : WX} {G : Gh} {δ δ1 : Sl} {σ : St} {H H1 H' : Hp} {X : Cx} {io : List Nat} {n : Nat} {f : List PyData → R (List PyData) (PyData × Bool)} {gi : Sl → R Sl (List It1)} {Q : VK}
/-- the promise met by the caller -/
theorem sp_ok {its : List It1} {vs : List V} {δ0 : Sl} {H0 : Hp} (hn : ∀ ds, itD δ1 its = some ds → ds.length = n) (E1 : ERel C G δ1 σ H1) (rs : ItR C G δ1 σ H1 vs its) (p1 : Post C W G δ1 σ H1 (kE C G δ1 σ H1 Q) (if itP 0 its == io && nodupB (itJ its) then match itD δ1 its with
    | some ds => match f ds with
      | .ok p outs => .ok (fixF p) (setMany δ1 (itJ its) outs)
      | .exc c xs outs => .exc c xs (setMany δ1 (itJ its) outs)
      | .stk => .stk
    | none => .stk
  else .stk)) : spD C io n f vs H1 Q (WE W σ) := by
  split at p1
  case isFalse => exact (show False from p1).elim
  case isTrue hc =>
  rw [Bool.and_eq_true] at hc
  split at p1
  case h_2 => exact (show False from p1).elim
  case h_1 ds hd =>
  have h : Hand C G δ1 σ H1 its vs ds io := ⟨E1, rs, by simpa using hc.1, nodupB_ok _ hc.2, hd⟩
  have hl : vs.length = n := by rw [h.in_.len, hn ds hd]
  refine ⟨ds, h.F, hl, h.in_, ?_⟩
  cases q : f ds with
  | ok p outs =>
    rw [q] at p1
    intro v H2 af rv fr
    obtain ⟨E2, X2, o⟩ := h.after af.k G rfl (fun _ => Iff.rfl) (fun _ z => z) (fun _ z => .inl z) (fun a z => af.th a (E1.fl a z)) (Wp := WC h.F io vs) (fun a z => (h.wc a).mpr z) af.out (fun mv gz => G.ivs C _ _ _ _ _ _ h.E.iv af.pl gz mv)
    have ww : ∀ a, WW G (setMany δ1 (itJ its) outs) σ a → WC h.F io vs a := fun a z => (h.wc a).mpr (z.imp id (o a).mp)
    refine p1 H2 E2 X2 v (by rw [fixF_1]; exact rv.weak ww) fun z => ?_
    obtain ⟨z1, z2, z3⟩ := fixF_2 z
    rw [fixF_1]
    obtain ⟨a, xs, es, rfl, e1, n1, e2, r1, o1⟩ | ⟨_, _, _, _, _, _, e1, _⟩ := fr z2
    case inr => exact absurd e1 (z3 _)
    have na : ¬ WW G δ1 σ a := fun q => E1.wwH q n1
    obtain ⟨E3, _, _⟩ := h.after af.k (G.plus a) rfl (fun _ => Iff.rfl) (fun _ z => .inl z) (fun b (z : G.F b ∨ b = a) => z.imp id fun e => by rw [e]; exact n1)
      (fun b z => by
        rcases z with z | z
        · exact af.th b (E1.fl b z)
        · rw [z, e2]; exact fun z => nomatch z) (Wp := fun b => WC h.F io vs b ∨ b = a) (fun b z => by
        rcases z with (z | z) | z
        · exact .inl ((h.wc b).mpr (.inl z))
        · exact .inr z
        · exact .inl ((h.wc b).mpr (.inr z))) o1 (fun mv gz => G.ivs C _ _ _ _ _ _ h.E.iv af.pl gz mv)
    refine ⟨⟨a, xs, es, rfl, e1, fun z => E1.ol a z n1, fun z => E1.fl a z n1, e2, r1.weak fun b z => ?_, E3⟩, fun b e => by cases e; exact .inl n1⟩
    rcases z with (z | z) | z
    · exact .inl ((h.wc b).mpr (.inl z))
    · exact .inr z
    · exact .inl ((h.wc b).mpr (.inr ((o b).mp z)))
  | exc c xs outs =>
    rw [q] at p1
    intro cls dct H2 af ev
    obtain ⟨E2, X2, o⟩ := h.after af.k G rfl (fun _ => Iff.rfl) (fun _ z => z) (fun _ z => .inl z) (fun a z => af.th a (E1.fl a z)) (Wp := WC h.F io vs) (fun a z => (h.wc a).mpr z) af.out (fun mv gz => G.ivs C _ _ _ _ _ _ h.E.iv af.pl gz mv)
    have ww : ∀ a, WW G (setMany δ1 (itJ its) outs) σ a → WC h.F io vs a := fun a z => (h.wc a).mpr (z.imp id (o a).mp)
    refine p1 cls dct H2 E2 X2 ⟨ev.1, ev.2.imp id fun ⟨dd, v, d, h1, h2, h3, h4⟩ => ⟨dd, v, d, h1, h2, h3, h4.weak ww⟩⟩
  | stk => rw [q] at p1; exact (show False from p1).elim
def CallN (n : Nat) (gi : Sl → R Sl (List It1)) : Prop := ∀ δ its δ1, gi δ = .ok its δ1 → its.length = n
theorem cn_nil : CallN 0 gjNil := fun δ its δ1 h => by cases h; rfl
theorem cn_val {ga : Sl → EV} (h : CallN n gi) : CallN (n + 1) (gjVal ga gi) := fun δ its δ1 e => by
  unfold gjVal at e
  cases q1 : ga δ with
  | ok x d0 =>
    rw [q1] at e
    have e : ((gi d0).bind fun xs δ2 => (.ok (.inl x.1 :: xs) δ2 : R Sl (List It1))) = .ok its δ1 := e
    cases q : gi d0 with
    | ok xs d1 =>
      rw [q] at e
      cases e
      rw [List.length_cons, h _ _ _ q]
    | exc c xs d1 => rw [q] at e; cases e
    | stk => rw [q] at e; cases e
  | exc c xs d1 => rw [q1] at e; cases e
  | stk => rw [q1] at e; cases e
theorem cn_io {j : Nat} (h : CallN n gi) : CallN (n + 1) (gjIo j gi) := fun δ its δ1 e => by
  unfold gjIo at e
  split at e
  · cases q : gi δ with
    | ok xs d1 =>
      rw [q] at e
      cases e
      rw [List.length_cons, h _ _ _ q]
    | exc c xs d1 => rw [q] at e; cases e
    | stk => rw [q] at e; cases e
  · cases e
theorem itD_len {δ : Sl} {its : List It1} {ds : List PyData} (h : itD δ its = some ds) : ds.length = its.length := (itD_at its ds h).1.symm
theorem pd_call {k : Nat} {fa : Addr} {fd : FuncData} {ps : List Str} {x : Str} {p pos : Pos} {e : Expr} {es : List Expr} (F : FnG X.prog X.w X.K X.mg X.base (L2.CX X.prog X.w) k fa fd ps (spD C io n f)) (tk : Takes X W) (hG : X.A.guards = some []) (hr : Room k X.A) (hg : Gl X x) (hm : X.mg x = some (.ref fa)) (hk : PySem.W.keepIn X.K (.ref fa) = true) (hb : Binds X.K fd ps [])
    (ha : PA X (e :: es) (tJ C W G gi)) (cn : CallN n gi) (hdb : (x == ("__debug__" : Str)) = false := by decide) (he : starEach (e :: es) X.env = (false, eval e X.env) :: starEach es X.env := by rfl) (hpl : (backTo pos (starEach es X.env)).any (·.1) = false := by rfl) :
    PE X (.Call (.Name x p) (e :: es) [] pos) (tD C W G (gDef f io gi)) := PE.imp (pe_callG F hG hr hg hm hk hb (fun σ => passAt tk σ) ha hdb he hpl) fun σ H Q ⟨δ, E, p⟩ => by
  refine ⟨δ, E, ?_⟩
  unfold gDef at p
  have p' := Post.bind p
  cases q : gi δ with
  | ok its δ1 =>
    rw [q] at p'
    intro H1 E1 X1 vs rs
    have p1 := (p' H1 E1 X1).at X1
    exact sp_ok (δ0 := δ) (H0 := H) (fun ds hd => by rw [itD_len hd]; exact cn _ _ _ q) E1 rs p1
  | exc c xs d => rw [q] at p'; exact p'
  | stk => rw [q] at p'; exact p'
/-- f() -/
def gDef0 (f : List D → R (List D) (D × Bool)) : Sl → EV := fun δ => match f [] with
  | .ok p _ => .ok (fixF p) δ
  | _ => .stk
theorem pd_call0 {k : Nat} {fa : Addr} {fd : FuncData} {x : Str} {p pos : Pos} (F : FnG X.prog X.w X.K X.mg X.base (L2.CX X.prog X.w) k fa fd [] (spD C [] 0 f)) (hG : X.A.guards = some []) (hr : Room k X.A) (hg : Gl X x) (hm : X.mg x = some (.ref fa)) (hk : PySem.W.keepIn X.K (.ref fa) = true) (hb : Binds X.K fd [] [])
    (hdb : (x == ("__debug__" : Str)) = false := by decide) : PE X (.Call (.Name x p) [] [] pos) (tD C W G (gDef0 f)) := PE.imp (pe_callG0 F hG hr hg hm hk hb (E := fun _ => E0) (fun σ pins H s e s' I c => passL pins σ H s e s' I c) hdb) fun σ H Q ⟨δ, E, p⟩ => by
  unfold gDef0 at p
  have h : Hand C G δ σ H [] [] [] [] := ⟨E, .nil, rfl, List.nodup_nil, rfl⟩
  refine ⟨[], h.F, rfl, h.in_, ?_⟩
  cases q : f [] with
  | ok p0 outs =>
    rw [q] at p
    intro v H2 af rv fr
    obtain ⟨E2, X2, o⟩ := h.after af.k G rfl (fun _ => Iff.rfl) (fun _ z => z) (fun _ z => .inl z) (fun a z => af.th a (E.fl a z)) (Wp := WC h.F [] []) (fun a z => (h.wc a).mpr z) af.out (fun mv gz => G.ivs C _ _ _ _ _ _ h.E.iv af.pl gz mv)
    have ww : ∀ a, WW G δ σ a → WC h.F [] [] a := fun a z => (h.wc a).mpr z
    have E2 : ERel C G δ σ H2 := by simpa [itJ, setMany] using E2
    have X2 : Ext δ σ H δ σ H2 := by simpa [itJ, setMany] using X2
    refine p H2 E2 X2 v (by rw [fixF_1]; exact rv.weak ww) fun z => ?_
    obtain ⟨z1, z2, z3⟩ := fixF_2 z
    rw [fixF_1]
    obtain ⟨a, xs, es, rfl, e1, n1, e2, r1, o1⟩ | ⟨_, _, _, _, _, _, e1, _⟩ := fr z2
    case inr => exact absurd e1 (z3 _)
    obtain ⟨E3, _, _⟩ := h.after af.k (G.plus a) rfl (fun _ => Iff.rfl) (fun _ z => .inl z) (fun b (z : G.F b ∨ b = a) => z.imp id fun e => by rw [e]; exact n1)
      (fun b z => by
        rcases z with z | z
        · exact af.th b (E.fl b z)
        · rw [z, e2]; exact fun z => nomatch z) (Wp := fun b => WC h.F [] [] b ∨ b = a) (fun b z => by
        rcases z with (z | z) | z
        · exact .inl ((h.wc b).mpr (.inl z))
        · exact .inr z
        · exact .inl ((h.wc b).mpr (.inr z))) o1 (fun mv gz => G.ivs C _ _ _ _ _ _ h.E.iv af.pl gz mv)
    have E3 : ERel C (G.plus a) δ σ H2 := by simpa [itJ, setMany] using E3
    refine ⟨⟨a, xs, es, rfl, e1, fun z => E.ol a z n1, fun z => E.fl a z n1, e2, r1.weak fun b z => ?_, E3⟩, fun b e => by cases e; exact .inl n1⟩
    rcases z with (z | z) | z
    · exact .inl ((h.wc b).mpr (.inl z))
    · exact .inr z
    · exact .inl ((h.wc b).mpr (.inr z))
  | exc c xs outs => rw [q] at p; exact (show False from p).elim
  | stk => rw [q] at p; exact (show False from p).elim
end
def startD (io : List Nat) : Nat → List D → Sl
  | _, [] => []
  | i, d :: r => some (io.contains i, d) :: startD io (i + 1) r
def outsD (δ : Sl) : List Nat → Option (List D)
  | [] => some []
  | i :: r => match δ[i]? with
    | some (some (true, d)) => (outsD δ r).map (d :: ·)
    | _ => none
/-- what a def with such a body comes to: N slots -/
def bodyF (io : List Nat) (N : Nat) (g : Sl → SV) : List D → R (List D) (D × Bool) := fun ds => match g (startD io 0 ds ++ List.replicate (N - ds.length) none) with
  | .ok .nx δ => match outsD δ io with
    | some outs => .ok (.none, false) outs
    | none => .stk
  | .ok (.rt d fr) δ => match outsD δ io with
    | some outs => .ok (d, fr) outs
    | none => .stk
  | .exc c xs δ => match outsD δ io with
    | some outs => .exc c xs outs
    | none => .stk
  | _ => .stk
theorem startD_len (io : List Nat) : ∀ (ds : List D) (k : Nat), (startD io k ds).length = ds.length
  | [], _ => rfl
  | d :: r, k => by simp [startD, startD_len io r]
theorem startD_get (io : List Nat) : ∀ (ds : List D) (k i : Nat), (startD io k ds)[i]? = ds[i]?.map fun d => some (io.contains (k + i), d)
  | [], _, _ => rfl
  | d :: r, k, 0 => rfl
  | d :: r, k, i + 1 => by
    show (startD io (k + 1) r)[i]? = _
    rw [startD_get io r (k + 1) i, show k + 1 + i = k + (i + 1) by omega]
    rfl
theorem outsD_len {δ : Sl} : ∀ (io : List Nat) (outs : List D), outsD δ io = some outs → outs.length = io.length ∧ ∀ (k i : Nat), io[k]? = some i → ∃ d, outs[k]? = some d ∧ δ[i]? = some (some (true, d))
  | [], outs, h => by cases h; exact ⟨rfl, by simp⟩
  | i0 :: r, outs, h => by
    unfold outsD at h
    split at h
    · rename_i d hd
      cases q : outsD δ r with
      | none => rw [q] at h; cases h
      | some es =>
        rw [q] at h; cases h
        obtain ⟨h1, h2⟩ := outsD_len r es q
        refine ⟨by simp [h1], fun k i hk => ?_⟩
        cases k with
        | zero => have z : i0 = i := by simpa using hk
                  subst z; exact ⟨d, rfl, hd⟩
        | succ k => exact h2 k i (by simpa using hk)
    · cases h
section
variable {C : Ct} {io : List Nat} {H : Hp} {vs : List V} {ds : List PyData} {F : Addr → Prop} {N : List Str}
def G0 (F : Addr → Prop) (H : Hp) (io : List Nat) (hs : ∀ i ∈ io, i < 1000) : Gh := ⟨F, fun a => H a ≠ none, io, fun i hi => absurd (hs _ hi) (by omega), fun _ _ _ H' => PL H H', fun _ _ _ _ _ _ _ h p _ _ => h.trans p, fun _ _ _ _ _ i hi => absurd (hs _ hi) (by omega)⟩
theorem start_get {i : Nat} {v : V} (h : vs[i]? = some v) : (L2.start N vs)[i]? = some (some v) := by
  have hl := (List.getElem?_eq_some_iff.mp h).1
  unfold L2.start
  rw [List.getElem?_append_left (by rw [List.length_map]; exact hl), List.getElem?_map, h]
  rfl
theorem slots_get {i : Nat} {x : Bool × D} (h : (startD io 0 ds ++ List.replicate (N.length - ds.length) none)[i]? = some (some x)) : ∃ d, ds[i]? = some d ∧ x = (io.contains i, d) := by
  by_cases hl : i < (startD io 0 ds).length
  · rw [List.getElem?_append_left hl, startD_get, Nat.zero_add] at h
    cases q : ds[i]? with
    | none => rw [q] at h; cases h
    | some d =>
      rw [q] at h
      exact ⟨d, rfl, (Option.some.inj (Option.some.inj h)).symm⟩
  · rw [List.getElem?_append_right (by omega)] at h
    obtain ⟨h1, h2⟩ := List.getElem?_eq_some_iff.mp h
    rw [List.getElem_replicate] at h2
    cases h2
theorem own_start (hlen : vs.length = ds.length) : ∀ a, Own (startD io 0 ds ++ List.replicate (N.length - ds.length) none) (L2.start N vs) a ↔ (∃ i, i < ds.length ∧ i ∈ io ∧ vs[i]? = some (.ref a)) := fun a => by
  constructor
  · rintro ⟨i, d, h1, h2⟩
    obtain ⟨d', h3, h4⟩ := slots_get (N := N) h1
    have hi : i < ds.length := (List.getElem?_eq_some_iff.mp h3).1
    have hv : ∃ v, vs[i]? = some v := ⟨_, List.getElem?_eq_getElem (hlen ▸ hi)⟩
    obtain ⟨v, hv⟩ := hv
    rw [start_get hv] at h2
    cases h2
    have z : io.contains i = true := (congrArg Prod.fst h4).symm
    exact ⟨i, hi, by simpa using z, hv⟩
  · rintro ⟨i, hi, hio, hv⟩
    refine ⟨i, ds[i], ?_, start_get hv⟩
    rw [List.getElem?_append_left (by rw [startD_len]; exact hi), startD_get, List.getElem?_eq_getElem hi, Nat.zero_add]
    simp [hio]
theorem ERel.begin (hs : ∀ i ∈ io, i < 1000) (I : InR C F io vs ds H) (hN : ds.length ≤ N.length) : ERel C (G0 F H io hs) (startD io 0 ds ++ List.replicate (N.length - ds.length) none) (L2.start N vs) H := by
  have ow := own_start (N := N) (io := io) I.len
  have w : ∀ a, WW (G0 F H io hs) (startD io 0 ds ++ List.replicate (N.length - ds.length) none) (L2.start N vs) a → WC F io vs a := fun a z => z.imp id fun q => by
    obtain ⟨i, _, h1, h2⟩ := (ow a).mp q
    exact ⟨i, h1, h2⟩
  refine ⟨?_, fun i d h => ?_, fun i d h => ?_, fun i j a di dj g1 g2 g3 g4 => ?_, I.fl, fun a z => z, I.sz, PL.refl⟩
  · unfold L2.start
    rw [List.length_append, startD_len, List.length_replicate, List.length_append, List.length_map, List.length_replicate, I.len]
  · obtain ⟨d', h1, h2⟩ := slots_get h
    have hd : d = d' := congrArg Prod.snd h2
    subst hd
    have hi : i < vs.length := by rw [I.len]; exact (List.getElem?_eq_some_iff.mp h1).1
    have hv : vs[i]? = some vs[i] := List.getElem?_eq_getElem hi
    have hc : io.contains i = false := by
      obtain ⟨d2, h3, h4⟩ := slots_get h
      exact (congrArg Prod.fst h4).symm
    exact ⟨_, start_get hv, (I.arg i _ _ (by simpa using hc) hv h1).weak w⟩
  · obtain ⟨d', h1, h2⟩ := slots_get h
    have hc : io.contains i = true := (congrArg Prod.fst h2).symm
    have hd : d = d' := congrArg Prod.snd h2
    subst hd
    have hi : i < vs.length := by rw [I.len]; exact (List.getElem?_eq_some_iff.mp h1).1
    have hv : vs[i]? = some vs[i] := List.getElem?_eq_getElem hi
    obtain ⟨a, xs, es, r1, r2, r3, r4, r5⟩ := I.ioa i _ _ (by simpa using hc) hv h1
    rw [r1] at hv
    exact ⟨a, xs, es, start_get hv, r2, r3, r4.weak w, r5, fun n => absurd (show i ∈ io by simpa using hc) n⟩
  · obtain ⟨d1, h1, h2⟩ := slots_get g1
    obtain ⟨d2, h3, h4⟩ := slots_get g2
    have hi : vs[i]? = some (.ref a) := by
      have hl : i < vs.length := by rw [I.len]; exact (List.getElem?_eq_some_iff.mp h1).1
      have q : vs[i]? = some vs[i] := List.getElem?_eq_getElem hl
      have z := start_get (N := N) q
      rw [g3] at z
      rw [q, ← Option.some.inj (Option.some.inj z)]
    have hj : vs[j]? = some (.ref a) := by
      have hl : j < vs.length := by rw [I.len]; exact (List.getElem?_eq_some_iff.mp h3).1
      have q : vs[j]? = some vs[j] := List.getElem?_eq_getElem hl
      have z := start_get (N := N) q
      rw [g4] at z
      rw [q, ← Option.some.inj (Option.some.inj z)]
    have c1 : io.contains i = true := (congrArg Prod.fst h2).symm
    have c2 : io.contains j = true := (congrArg Prod.fst h4).symm
    exact I.inj i j a (by simpa using c1) (by simpa using c2) hi hj
/-- what the body's end says of the caller's side -/
theorem aft_of {δ : Sl} {σ : St} {H' : Hp} {outs : List PyData} (I : InR C F io vs ds H) (hN : ds.length ≤ N.length) (hiol : ∀ i ∈ io, i < ds.length) (Gp : Gh) (hio : Gp.io = io) (E : ERel C Gp δ σ H')
    (X : Ext (startD io 0 ds ++ List.replicate (N.length - ds.length) none) (L2.start N vs) H δ σ H') (k : ∀ i ∈ io, σ[i]? = (L2.start N vs)[i]?) (ho : outsD δ io = some outs) : (∀ a, IoA io vs a → Own δ σ a) ∧
    ∀ Wp : Addr → Prop, (∀ a, Wp a → WW Gp δ σ a) → OutR C Wp io vs outs H' := by
  obtain ⟨h1, h2⟩ := outsD_len io outs ho
  refine ⟨fun a ⟨i, hi, hv⟩ => ?_, fun Wp hw => ⟨h1, fun kk i a hk hv => ?_⟩⟩
  · obtain ⟨kk, hk⟩ := List.getElem?_of_mem hi
    obtain ⟨d, g1, g2⟩ := h2 kk i hk
    exact ⟨i, d, g2, by rw [k i hi, start_get hv]⟩
  · obtain ⟨d, g1, g2⟩ := h2 kk i hk
    obtain ⟨b, xs, es, r1, r2, r3, r4, _⟩ := E.ow i d g2
    rw [k i (List.mem_of_getElem? hk), start_get hv] at r1
    cases r1
    exact ⟨xs, es, by rw [g1, r2], r3, r4.weak hw⟩
/-- THE RULE for a def -/
theorem fnD {P : Program} {w : World} {K : PySem.W.Frag} {mg : Str → Option Value} {base : Heap} {x qual : Str} {st : Stmt} {fa : Addr} {fd : FuncData} {ps : List Str} {k : Nat} {g : Sl → SV} (Fn : Fun K x qual st fa fd) (S : FnScope N ps (defScope st)) (hps : ps.length ≤ N.length) (hiol : ∀ i ∈ io, i < ps.length)
    (hb : ∀ (cdv : Value) (A : Around) (outer : List Env) (s : Shared) (H : Hp) (E : XK) (G : Gh), G.io = io → Room k (A.deeper (envOfC qual (defScope st) s.heap.objs.size fa cdv)) → A.guards = some [] →
      PSs (cxOf (L2.CX P w) P w K mg base N qual (defScope st) fa cdv A outer s H E) (defBody st) (tS C (fun cls d _ H' => E cls d H') G g)) (hsm : ps.length ≤ 1000 := by decide) :
    FnG P w K mg base (L2.CX P w) (k + 1) fa fd ps (spD C io ps.length (bodyF io N.length g)) := by
  refine fn_body Fn S (fun vs H Q E h => ?_) (fun cdv A outer s H vs Q E hG hr h => ?_)
  · obtain ⟨ds, F, h1, _⟩ := h
    exact h1
  · obtain ⟨ds, F, hn, I, p⟩ := h
    have hs : ∀ i ∈ io, i < 1000 := fun i hi => Nat.lt_of_lt_of_le (hiol i hi) hsm
    refine ⟨_, hb cdv A outer s H E (G0 F H io hs) rfl hr hG, ?_⟩
    have hdl : ds.length = ps.length := by rw [← I.len, hn]
    have hN : ds.length ≤ N.length := by rw [hdl]; exact hps
    refine ⟨_, ERel.begin (N := N) hs I hN, ?_⟩
    have ow := own_start (N := N) (io := io) I.len
    unfold bodyF at p
    have aft : ∀ {δ σ H' outs}, ERel C (G0 F H io hs) δ σ H' → Ext (startD io 0 ds ++ List.replicate (N.length - ds.length) none) (L2.start N vs) H δ σ H' → IoK (G0 F H io hs) (L2.start N vs) σ → outsD δ io = some outs → Aft C F io vs H H' outs ∧ ∀ a, WC F io vs a → WW (G0 F H io hs) δ σ a := fun {δ σ H' outs} E' X' i' ho => by
      obtain ⟨a1, a2⟩ := aft_of I hN (fun i hi => by rw [hdl]; exact hiol i hi) (G0 F H io hs) rfl E' X' i' ho
      have w : ∀ a, WC F io vs a → WW (G0 F H io hs) δ σ a := fun a z => z.imp id fun q => a1 a q
      exact ⟨⟨⟨fun a o e n no => X'.kp.kp a o e (fun z => n (by obtain ⟨i, _, h1, h2⟩ := (ow a).mp z; exact ⟨i, h1, h2⟩)) no, X'.kp.hs⟩, X'.th, E'.sz, a2 _ w, E'.iv⟩, w⟩
    cases q : g (startD io 0 ds ++ List.replicate (N.length - ds.length) none) with
    | stk => rw [q] at p; exact (show False from p).elim
    | exc c xs δ =>
      rw [q] at p
      intro cls dct σ H' E' X' i' ev
      dsimp only at p
      split at p
      · rename_i outs ho
        obtain ⟨af, w⟩ := aft E' X' i' ho
        exact p cls dct H' af ⟨ev.1, ev.2.imp id fun ⟨dd, v, d, h1, h2, h3, h4⟩ => ⟨dd, v, d, h1, h2, h3, h4.weak w⟩⟩
      · exact (show False from p).elim
    | ok fl δ =>
      rw [q] at p
      cases fl with
      | bk => exact (show False from p).elim
      | ct => exact (show False from p).elim
      | nx =>
        intro σ H' E' X' i'
        dsimp only at p
        split at p
        · rename_i outs ho
          obtain ⟨af, w⟩ := aft E' X' i' ho
          exact p .non H' af .non fun z => nomatch z
        · exact (show False from p).elim
      | rt d fr =>
        intro σ H' E' X' i' v rv f
        dsimp only at p
        split at p
        · rename_i outs ho
          obtain ⟨af, w⟩ := aft E' X' i' ho
          refine p v H' af (rv.weak w) fun z => ?_
          have w2 : ∀ {a}, ∀ b, (WC F io vs b ∨ b = a) → WW ((G0 F H io hs).plus a) δ σ b := fun {a} b z => by
            obtain ⟨a1, a2⟩ := aft_of I hN (fun i hi => by rw [hdl]; exact hiol i hi) (G0 F H io hs) rfl E' X' i' ho
            rcases z with (z | z) | z
            · exact .inl (.inl z)
            · exact .inr (a1 b z)
            · exact .inl (.inr z)
          have hn : ∀ {a}, ¬ (G0 F H io hs).Old a → H a = none := fun {a} n1 => by
            cases q2 : H a with
            | none => rfl
            | some o => exact absurd (show H a ≠ none by rw [q2]; exact fun z => nomatch z) n1
          rcases f z with ⟨a, xs, es, e1, e2, n1, n2, e3, r1, E2⟩ | ⟨t, n, a, xs, es, e1, e2, st, n1, n2, e3, r1, E2⟩
          · subst e1
            obtain ⟨a1, a2⟩ := aft_of I hN (fun i hi => by rw [hdl]; exact hiol i hi) ((G0 F H io hs).plus a) rfl E2 X' i' ho
            exact .inl ⟨a, xs, es, rfl, e2, hn n1, e3, r1.weak w2, a2 _ w2⟩
          · subst e1
            obtain ⟨a1, a2⟩ := aft_of I hN (fun i hi => by rw [hdl]; exact hiol i hi) ((G0 F H io hs).plus a) rfl E2 X' i' ho
            exact .inr ⟨t, n, a, xs, es, rfl, e2, st, hn n1, e3, r1.weak w2, a2 _ w2⟩
        · exact (show False from p).elim
end
end DL
namespace DL
open PySem PySem.Spec L2
open PyProof.Rows hiding St
def gUn (f : D → Option (D × Bool)) (ga : Sl → EV) : Sl → EV := fun δ => (ga δ).bind fun x δ1 => fin (f x.1) δ1
def dNeg : D → Option (D × Bool)
  | .int i => some (.int (-i), false)
  | _ => none
/-- two values, one behind the other, both as new as they come -/
def gPair (ga gb : Sl → EV) : Sl → R Sl ((D × Bool) × (D × Bool)) := fun δ => (ga δ).bind fun x δ1 => (gb δ1).bind fun y δ2 => .ok (x, y) δ2
def sPar (io : List Nat) (i j : Nat) (ga gb : Sl → EV) : Sl → SV := fun δ => (gPair ga gb δ).bind fun z δ1 => match setSlot io i (some (z.1.2, z.1.1)) δ1 with
  | some δ2 => match setSlot io j (some (z.2.2, z.2.1)) δ2 with
    | some δ3 => .ok .nx δ3
    | none => .stk
  | none => .stk
def sRaise (c : Nat) : Sl → SV := fun δ => .exc c [] δ
section
variable {C : Ct} {W : WX} {G : Gh} {δ δ1 : Sl} {σ : St} {H H1 : Hp} {X : Cx} {a b e : Expr} {ga gb : Sl → EV} {pos : Pos}
theorem ERel.notOwn' {p : Addr} (E : ERel C G δ σ H) (hF : G.F p) : ¬ Own δ σ p := E.notOwn hF
theorem pd_neg (ha : PE X a (tD C W G ga)) : PE X (.UnaryOp .USub a pos) (tD C W G (gUn dNeg ga)) := PE.imp (pe_un un_neg ha) fun σ H Q ⟨δ, E, p⟩ =>
  ⟨δ, E, (Post.bind p).imp fun x δ1 H1 E1 X1 p1 v rv _ => by
    obtain ⟨d, fr⟩ := x
    cases d <;> first | exact (show False from p1).elim | skip
    cases rv
    exact ⟨_, rfl, now E1 p1 _ (.int _) fun z => nomatch z⟩⟩
/-- the value that a slot gets: data, or a list that nothing else has -/
def Got (C : Ct) (G : Gh) (Wd : Addr → Prop) (H : Hp) (v : V) (x : PyData × Bool) : Prop :=
  (x.2 = false → Rep C Wd H v x.1) ∧ (x.2 = true → ∃ a xs ds, v = .ref a ∧ x.1 = .list ds ∧ ¬ G.Old a ∧ ¬ G.F a ∧ H a = some (.lst xs) ∧ RepL C Wd H xs ds)
theorem store2 {i j : Nat} {v w : V} {x y : PyData × Bool} {δ0 : Sl} {H0 : Hp} {GG : Gh} (hij : i ≠ j) (hi : i < δ.length) (hj : j < δ.length) (ni : i ∉ G.io) (nj : j ∉ G.io) (hF : ∀ b, GG.F b ↔ G.F b ∨ (x.2 = true ∧ v = .ref b) ∨ (y.2 = true ∧ w = .ref b)) (hO : GG.Old = G.Old ∧ GG.iv = G.iv) (hI : GG.io = G.io) (E : ERel C GG δ σ H) (X0 : Ext δ0 σ H0 δ σ H)
    (gv : Got C G (WW GG δ σ) H v x) (gw : Got C G (WW GG δ σ) H w y) (dj : ∀ b, x.2 = true → y.2 = true → v = .ref b → w = .ref b → False) (nv : x.2 = true → ∀ b, v = .ref b → H0 b = none ∨ Own δ0 σ b) (nw : y.2 = true → ∀ b, w = .ref b → H0 b = none ∨ Own δ0 σ b) :
    ERel C G ((δ.set i (some (x.2, x.1))).set j (some (y.2, y.1))) ((σ.set i (some v)).set j (some w)) H ∧ Ext δ0 σ H0 ((δ.set i (some (x.2, x.1))).set j (some (y.2, y.1))) ((σ.set i (some v)).set j (some w)) H ∧ IoK G σ ((σ.set i (some v)).set j (some w)) := by
  have dl : (δ.set i (some (x.2, x.1))).length = δ.length := List.length_set
  have sl : (σ.set i (some v)).length = σ.length := List.length_set
  have hi' : i < σ.length := E.len ▸ hi
  have hj' : j < σ.length := E.len ▸ hj
  -- the slots behind the stores
  have at_ : ∀ k, (k = j ∧ ((δ.set i (some (x.2, x.1))).set j (some (y.2, y.1)))[k]? = some (some (y.2, y.1)) ∧ ((σ.set i (some v)).set j (some w))[k]? = some (some w)) ∨
      (k = i ∧ ((δ.set i (some (x.2, x.1))).set j (some (y.2, y.1)))[k]? = some (some (x.2, x.1)) ∧ ((σ.set i (some v)).set j (some w))[k]? = some (some v)) ∨
      (k ≠ i ∧ k ≠ j ∧ ((δ.set i (some (x.2, x.1))).set j (some (y.2, y.1)))[k]? = δ[k]? ∧ ((σ.set i (some v)).set j (some w))[k]? = σ[k]?) := fun k => by
    by_cases e1 : k = j
    · subst e1
      exact .inl ⟨rfl, List.getElem?_set_self (by rw [dl]; exact hj), List.getElem?_set_self (by rw [sl]; exact hj')⟩
    · by_cases e2 : k = i
      · subst e2
        refine .inr (.inl ⟨rfl, ?_, ?_⟩)
        · rw [List.getElem?_set_ne (Ne.symm e1)]; exact List.getElem?_set_self hi
        · rw [List.getElem?_set_ne (Ne.symm e1)]; exact List.getElem?_set_self hi'
      · refine .inr (.inr ⟨e2, e1, ?_, ?_⟩)
        · rw [List.getElem?_set_ne (Ne.symm e1), List.getElem?_set_ne (Ne.symm e2)]
        · rw [List.getElem?_set_ne (Ne.symm e1), List.getElem?_set_ne (Ne.symm e2)]
  have ow : ∀ b, Own ((δ.set i (some (x.2, x.1))).set j (some (y.2, y.1))) ((σ.set i (some v)).set j (some w)) b → Own δ σ b ∨ (x.2 = true ∧ v = .ref b) ∨ (y.2 = true ∧ w = .ref b) := fun b ⟨k, d, h1, h2⟩ => by
    rcases at_ k with ⟨_, q1, q2⟩ | ⟨_, q1, q2⟩ | ⟨_, _, q1, q2⟩
    · rw [q1] at h1; rw [q2] at h2
      exact .inr (.inr ⟨congrArg Prod.fst (Option.some.inj (Option.some.inj h1)), Option.some.inj (Option.some.inj h2)⟩)
    · rw [q1] at h1; rw [q2] at h2
      exact .inr (.inl ⟨congrArg Prod.fst (Option.some.inj (Option.some.inj h1)), Option.some.inj (Option.some.inj h2)⟩)
    · rw [q1] at h1; rw [q2] at h2
      exact .inl ⟨k, d, h1, h2⟩
  have ww : ∀ b, WW G ((δ.set i (some (x.2, x.1))).set j (some (y.2, y.1))) ((σ.set i (some v)).set j (some w)) b → WW GG δ σ b := fun b z => by
    rcases z with z | z
    · exact .inl ((hF b).mpr (.inl z))
    · rcases ow b z with q | q
      · exact .inr q
      · exact .inl ((hF b).mpr (.inr q))
  have noO : ∀ b, (x.2 = true ∧ v = .ref b) ∨ (y.2 = true ∧ w = .ref b) → ¬ Own δ σ b := fun b q => E.notOwn' ((hF b).mpr (.inr q))
  refine ⟨⟨by rw [List.length_set, List.length_set, List.length_set, List.length_set]; exact E.len, fun k d h => ?_, fun k d h => ?_, fun k k' b d1 d2 g1 g2 g3 g4 => ?_, fun b z => E.fl b ((hF b).mpr (.inl z)), fun b z => E.ol b (by rw [hO.1]; exact z), E.sz, G.ivs C _ _ _ _ _ _ (show G.iv C δ (WW GG δ σ) H by rw [← hO.2]; exact E.iv) .refl (fun k hk => by
    rcases at_ k with ⟨e, _⟩ | ⟨e, _⟩ | ⟨_, _, q1, _⟩
    · exact absurd (e ▸ G.ghio k hk) nj
    · exact absurd (e ▸ G.ghio k hk) ni
    · exact q1) fun v d r => r.weak ww⟩, ⟨X0.kp, X0.th, fun b z => ?_⟩, fun k hk => ?_⟩
  · rcases at_ k with ⟨_, q1, q2⟩ | ⟨_, q1, q2⟩ | ⟨_, _, q1, q2⟩
    · rw [q1] at h
      have z := Option.some.inj (Option.some.inj h)
      have z1 : y.2 = false := congrArg Prod.fst z
      have z2 : y.1 = d := congrArg Prod.snd z
      exact ⟨w, q2, z2 ▸ (gw.1 z1).weak ww⟩
    · rw [q1] at h
      have z := Option.some.inj (Option.some.inj h)
      have z1 : x.2 = false := congrArg Prod.fst z
      have z2 : x.1 = d := congrArg Prod.snd z
      exact ⟨v, q2, z2 ▸ (gv.1 z1).weak ww⟩
    · rw [q1] at h
      obtain ⟨u, r1, r2⟩ := E.sh k d h
      exact ⟨u, by rw [q2]; exact r1, r2.weak ww⟩
  · rcases at_ k with ⟨_, q1, q2⟩ | ⟨_, q1, q2⟩ | ⟨_, _, q1, q2⟩
    · rw [q1] at h
      have z := Option.some.inj (Option.some.inj h)
      obtain ⟨a, xs, ds, e1, e2, n1, n2, e3, r⟩ := gw.2 (congrArg Prod.fst z)
      have z2 : y.1 = d := congrArg Prod.snd z
      exact ⟨a, xs, ds, by rw [q2, e1], by rw [← z2, e2], e3, r.weak ww, n2, fun _ => n1⟩
    · rw [q1] at h
      have z := Option.some.inj (Option.some.inj h)
      obtain ⟨a, xs, ds, e1, e2, n1, n2, e3, r⟩ := gv.2 (congrArg Prod.fst z)
      have z2 : x.1 = d := congrArg Prod.snd z
      exact ⟨a, xs, ds, by rw [q2, e1], by rw [← z2, e2], e3, r.weak ww, n2, fun _ => n1⟩
    · rw [q1] at h
      obtain ⟨b, ys, es, r1, r2, r3, r4, r5, r6⟩ := E.ow k d h
      exact ⟨b, ys, es, by rw [q2]; exact r1, r2, r3, r4.weak ww, fun z => r5 ((hF b).mpr (.inl z)), fun n => by rw [← hO.1]; exact r6 (by rw [hI]; exact n)⟩
  · -- two own slots with one list
    have key : ∀ {k d}, ((δ.set i (some (x.2, x.1))).set j (some (y.2, y.1)))[k]? = some (some (true, d)) → ((σ.set i (some v)).set j (some w))[k]? = some (some (.ref b)) →
        (k = j ∧ y.2 = true ∧ w = .ref b) ∨ (k = i ∧ x.2 = true ∧ v = .ref b) ∨ (∃ d, δ[k]? = some (some (true, d)) ∧ σ[k]? = some (some (.ref b))) := fun {k d} h1 h2 => by
      rcases at_ k with ⟨e, q1, q2⟩ | ⟨e, q1, q2⟩ | ⟨_, _, q1, q2⟩
      · rw [q1] at h1; rw [q2] at h2
        exact .inl ⟨e, congrArg Prod.fst (Option.some.inj (Option.some.inj h1)), Option.some.inj (Option.some.inj h2)⟩
      · rw [q1] at h1; rw [q2] at h2
        exact .inr (.inl ⟨e, congrArg Prod.fst (Option.some.inj (Option.some.inj h1)), Option.some.inj (Option.some.inj h2)⟩)
      · rw [q1] at h1; rw [q2] at h2
        exact .inr (.inr ⟨d, h1, h2⟩)
    rcases key g1 g3 with ⟨e1, a1, a2⟩ | ⟨e1, a1, a2⟩ | ⟨d1', a1, a2⟩
    · rcases key g2 g4 with ⟨e2, b1, b2⟩ | ⟨e2, b1, b2⟩ | ⟨d2', b1, b2⟩
      · rw [e1, e2]
      · exact (dj b b1 a1 b2 a2).elim
      · exact absurd ⟨k', d2', b1, b2⟩ (noO b (.inr ⟨a1, a2⟩))
    · rcases key g2 g4 with ⟨e2, b1, b2⟩ | ⟨e2, b1, b2⟩ | ⟨d2', b1, b2⟩
      · exact (dj b a1 b1 a2 b2).elim
      · rw [e1, e2]
      · exact absurd ⟨k', d2', b1, b2⟩ (noO b (.inl ⟨a1, a2⟩))
    · rcases key g2 g4 with ⟨e2, b1, b2⟩ | ⟨e2, b1, b2⟩ | ⟨d2', b1, b2⟩
      · exact absurd ⟨k, d1', a1, a2⟩ (noO b (.inr ⟨b1, b2⟩))
      · exact absurd ⟨k, d1', a1, a2⟩ (noO b (.inl ⟨b1, b2⟩))
      · exact E.inj k k' b d1' d2' a1 b1 a2 b2
  · rcases ow b z with q | q | q
    · exact X0.own b q
    · exact (nv q.1 b q.2).symm
    · exact (nw q.1 b q.2).symm
  · rcases at_ k with ⟨e, _⟩ | ⟨e, _⟩ | ⟨_, _, _, q2⟩
    · exact absurd (e ▸ hk) nj
    · exact absurd (e ▸ hk) ni
    · exact q2
end
section
variable {C : Ct} {W : WX} {G : Gh} {δ δ1 : Sl} {σ : St} {H H1 : Hp} {X : Cx} {a b e : Expr} {ga gb : Sl → EV} {pos : Pos} {io : List Nat}
def tDwS (C : Ct) (W : WX) (io : List Nat) (iv : Ct → Sl → (Addr → Prop) → Hp → Prop) (g : Sl → EV) : TE := fun σ H Q => ∃ G, G.io = io ∧ G.iv = iv ∧ tD C W G g σ H Q
theorem psd_parS {i j : Nat} {x y : Str} {px py pt : Pos} {kt k2 pt2} (hio : G.io = io) (hc : X.calm = true) (hN : X.N.Nodup) (hi : X.N[i]? = some x) (hj : X.N[j]? = some y) (hij : i ≠ j)
    (hx : X.env.scope.names.lookup x = some .local) (hy : X.env.scope.names.lookup y = some .local) (ha : PE X a (tD C W G ga)) (hb : ∀ G', G'.io = io → G'.iv = G.iv → PE X b (tD C W G' gb))
    (hw : swappedStores [.Tuple [.Name x px, .Name y py] kt pt] (.Tuple [a, b] k2 pt2) X.env = pure (some [x, y]))
    (hs : swapsWithSole [.Tuple [.Name x px, .Name y py] kt pt] (.Tuple [a, b] k2 pt2) pos.line X.env = pure false := by rfl)
    (na : starEach [a, b] X.env = (false, eval a X.env) :: starEach [b] X.env := by rfl) (nb : starEach [b] X.env = (false, eval b X.env) :: starEach [] X.env := by rfl) :
    PS X (.Assign [.Tuple [.Name x px, .Name y py] kt pt] (.Tuple [a, b] k2 pt2) pos) (tS C W G (sPar G.io i j ga gb)) := by
  have hb' : PE X b (tDwS C W io G.iv gb) := ⟨fun pins s σ H Q I ⟨G', h1, h3, h2⟩ => (hb G' h1 h3).run pins s σ H Q I h2⟩
  refine PS.imp (ps_par hc hN hi hj hij hx hy (pa_cons ha (pa_cons hb' pa_nil nb) na) hw hs) fun D σ H ⟨δ, E, p⟩ => ⟨δ, E, ?_⟩
  unfold sPar gPair at p
  cases q1 : ga δ with
  | exc c xs d => rw [q1] at p; exact fun cls dct H' E' X' v => p cls dct σ H' E' X' IoK.refl v
  | stk => rw [q1] at p; exact p
  | ok u δ1 =>
  rw [q1] at p
  intro H1 E1 X1 v rv fv
  -- the second value is reckoned while the first list, if new, is nobody's
  have go : ∀ G1 : Gh, G1.io = io → (G1.Old = G.Old ∧ G1.iv = G.iv) → (∀ b, G1.F b ↔ G.F b ∨ (u.2 = true ∧ v = .ref b)) → ERel C G1 δ1 σ H1 → Got C G (WW G1 δ1 σ) H1 v u →
      tDwS C W io G.iv gb σ H1 fun w H2 => ∃ v' w', [v, w] = [v', w'] ∧ D.nx ((σ.set i (some v')).set j (some w')) H2 := fun G1 h1 hO1 hF1 F1 gv => by
    refine ⟨G1, h1, hO1.2, δ1, F1, ?_⟩
    have p2 : PostS C W G δ σ H D (((gb δ1).bind fun y δ2 => (.ok (u, y) δ2 : R Sl ((PyData × Bool) × (PyData × Bool)))).bind fun z δ1 => match setSlot G.io i (some (z.1.2, z.1.1)) δ1 with
      | some δ2 => match setSlot G.io j (some (z.2.2, z.2.1)) δ2 with
        | some δ3 => .ok .nx δ3
        | none => .stk
      | none => .stk) := p
    cases q2 : gb δ1 with
    | exc c xs d =>
      rw [q2] at p2
      intro cls dct H2 E2 X2 ev
      have wk : ∀ b, WW G d σ b → WW G1 d σ b := fun b z => z.imp (fun q => (hF1 b).mpr (.inl q)) id
      have E2' : ERel C G d σ H2 := by
        refine ⟨E2.len, fun k e h => ?_, fun k e h => ?_, E2.inj, fun b z => E2.fl b ((hF1 b).mpr (.inl z)), fun b z => E2.ol b (by rw [hO1.1]; exact z), E2.sz, G.ivs C _ _ _ _ _ _ (show G.iv C d (WW G1 d σ) H2 by rw [← hO1.2]; exact E2.iv) .refl (fun _ _ => rfl) fun v d r => r.weak wk⟩
        · obtain ⟨t, r1, r2⟩ := E2.sh k e h
          exact ⟨t, r1, r2.weak wk⟩
        · obtain ⟨b, ys, es, r1, r2, r3, r4, r5, r6⟩ := E2.ow k e h
          exact ⟨b, ys, es, r1, r2, r3, r4.weak wk, fun z => r5 ((hF1 b).mpr (.inl z)), fun n => by rw [← hO1.1]; exact r6 (by rw [h1, ← hio]; exact n)⟩
      exact p2 cls dct σ H2 E2' (X1.trans X2) IoK.refl ⟨ev.1, ev.2.imp id fun ⟨dd, v, d, g1, g2, g3, g4⟩ => ⟨dd, v, d, g1, g2, g3, g4.weak wk⟩⟩
    | stk => rw [q2] at p2; exact (show False from p2).elim
    | ok t δ2 =>
    rw [q2] at p2
    have p2 : PostS C W G δ σ H D (match setSlot G.io i (some (u.2, u.1)) δ2 with
      | some δ2 => match setSlot G.io j (some (t.2, t.1)) δ2 with
        | some δ3 => .ok .nx δ3
        | none => .stk
      | none => .stk) := p2
    intro H2 E2 X2 w rw_ fw
    refine ⟨v, w, rfl, ?_⟩
    have set_ok : ∀ {k : Nat} {z : Option (Bool × PyData)} {δa δb : Sl}, setSlot G.io k z δa = some δb → k < δa.length ∧ k ∉ G.io ∧ δb = δa.set k z := fun {k z δa δb} q => by
      unfold setSlot at q
      split at q
      · cases q
      · rename_i hn
        rw [Bool.or_eq_true, not_or] at hn
        have hk := hn.2
        simp at hk
        exact ⟨hk, by simpa using hn.1, (Option.some.inj q).symm⟩
    cases s1 : setSlot G.io i (some (u.2, u.1)) δ2 with
    | none => rw [s1] at p2; exact (show False from p2).elim
    | some δ3 =>
    rw [s1] at p2
    dsimp only at p2
    cases s2 : setSlot G.io j (some (t.2, t.1)) δ3 with
    | none => rw [s2] at p2; exact (show False from p2).elim
    | some δ4 =>
    rw [s2] at p2
    obtain ⟨hi2, ni, rfl⟩ := set_ok s1
    obtain ⟨hj2, nj, rfl⟩ := set_ok s2
    rw [List.length_set] at hj2
    -- the ghost with both
    have fin : ∀ GG : Gh, (GG.Old = G.Old ∧ GG.iv = G.iv) → GG.io = G.io → (∀ b, GG.F b ↔ G.F b ∨ (u.2 = true ∧ v = .ref b) ∨ (t.2 = true ∧ w = .ref b)) → ERel C GG δ2 σ H2 → (∀ b, WW GG δ2 σ b → WW G1 δ1 σ b ∨ H1 b = none) → Got C G (WW GG δ2 σ) H2 w t → (∀ b, t.2 = true → w = .ref b → H1 b = none ∨ Own δ1 σ b) → D.nx ((σ.set i (some v)).set j (some w)) H2 := fun GG hO hI hF EE ww gw nw => by
      have gv2 : Got C G (WW GG δ2 σ) H2 v u := ⟨fun z => (gv.1 z).move X2.kp (fun _ z => .inr z) ww, fun z => by
        obtain ⟨a, xs, ds, e1, e2, n1, n2, e3, r⟩ := gv.2 z
        have na : ¬ Own δ1 σ a := F1.notOwn' ((hF1 a).mpr (.inr ⟨z, e1⟩))
        exact ⟨a, xs, ds, e1, e2, n1, n2, X2.kp.kp a _ e3 fun q => absurd q na, r.move X2.kp (fun _ z => .inr z) ww⟩⟩
      obtain ⟨E3, X3, I3⟩ := store2 (i := i) (j := j) (x := u) (y := t) hij hi2 hj2 ni nj hF hO hI EE (X1.trans X2) gv2 gw (fun b z1 z2 e1 e2 => by
        rcases nw b z2 e2 with q | q
        · obtain ⟨a, xs, ds, g1, _, _, _, g2, _⟩ := gv.2 z1
          rw [e1] at g1; cases g1
          rw [q] at g2; cases g2
        · exact F1.notOwn' ((hF1 b).mpr (.inr ⟨z1, e1⟩)) q) (fun z b e => (fv z).2 b e) (fun z b e => X1.back (nw b z e))
      exact p2 _ _ E3 X3 I3
    by_cases ht : t.2 = true
    · obtain ⟨⟨a2, xs2, ds2, e1, e2, n1, n2, e3, r2, F2⟩, nw⟩ := fw ht
      refine fin (G1.plus a2) hO1 (h1.trans hio.symm) (fun b => ?_) F2 (fun b z => ?_) ⟨fun z => (by rw [ht] at z; cases z), fun _ => ⟨a2, xs2, ds2, e1, e2, by rw [← hO1.1]; exact n1, fun z => n2 ((hF1 a2).mpr (.inl z)), e3, r2⟩⟩ fun b _ e => nw b e
      · constructor
        · rintro (z | z)
          · exact ((hF1 b).mp z).imp id .inl
          · exact .inr (.inr ⟨ht, by rw [z]; exact e1⟩)
        · rintro (z | z | z)
          · exact .inl ((hF1 b).mpr (.inl z))
          · exact .inl ((hF1 b).mpr (.inr z))
          · exact .inr (by have q := z.2; rw [e1] at q; cases q; rfl)
      · rcases z with (z | z) | z
        · exact .inl (.inl z)
        · rw [z]
          exact (nw a2 e1).symm.imp .inr id
        · exact (X2.own b z).imp .inr id
    · have ht' : t.2 = false := by simpa using ht
      refine fin G1 hO1 (h1.trans hio.symm) (fun b => ?_) E2 (fun b z => z.elim (fun q => .inl (.inl q)) fun q => (X2.own b q).imp .inr id) ⟨fun _ => rw_, fun z => absurd z ht⟩ fun b z => absurd z ht
      constructor
      · intro z
        exact ((hF1 b).mp z).imp id .inl
      · rintro (z | z | z)
        · exact (hF1 b).mpr (.inl z)
        · exact (hF1 b).mpr (.inr z)
        · exact absurd z.1 ht
  by_cases hu : u.2 = true
  · obtain ⟨⟨a, xs, ds, e1, e2, n1, n2, e3, r, F1⟩, nn⟩ := fv hu
    refine go (G.plus a) hio ⟨rfl, rfl⟩ (fun b => ?_) F1 ⟨fun z => (by rw [hu] at z; cases z), fun _ => ⟨a, xs, ds, e1, e2, n1, n2, e3, r⟩⟩
    constructor
    · rintro (z | z)
      · exact .inl z
      · exact .inr ⟨hu, by rw [z]; exact e1⟩
    · rintro (z | z)
      · exact .inl z
      · exact .inr (by have q := z.2; rw [e1] at q; cases q; rfl)
  · refine go G hio ⟨rfl, rfl⟩ (fun b => ?_) E1 ⟨fun _ => rv, fun z => absurd z hu⟩
    constructor
    · exact fun z => .inl z
    · rintro (z | z)
      · exact z
      · exact absurd z.1 hu
/-- raise X("..") -/
theorem psd_raise {c : Nat} (h : PS X (.Raise (some e) none pos) (fun _ σ H => W (.ref (C.cl c)) none σ H)) : PS X (.Raise (some e) none pos) (tS C W G (sRaise c)) := PS.imp h fun D σ H ⟨δ, E, p⟩ => p _ none σ H E Ext.refl IoK.refl ⟨rfl, .inl ⟨rfl, rfl⟩⟩
/-- a constant of the module: a tuple of texts, an int -/
theorem rep_strs {K : PySem.W.Frag} {Wd : Addr → Prop} : ∀ xs : List Str, RepL C Wd H (xs.map V.str) (xs.map PyData.str)
  | [] => .nil
  | x :: xs => .cons (.str x) (rep_strs (K := K) xs)
theorem psd_par {i j : Nat} {x y : Str} {px py pt : Pos} {kt k2 pt2} (hio : G.io = io) (hc : X.calm = true) (hN : X.N.Nodup) (hi : X.N[i]? = some x) (hj : X.N[j]? = some y) (hij : i ≠ j)
    (hx : X.env.scope.names.lookup x = some .local) (hy : X.env.scope.names.lookup y = some .local) (ha : PE X a (tD C W G ga)) (hb : ∀ G', G'.io = io → PE X b (tD C W G' gb))
    (hw : swappedStores [.Tuple [.Name x px, .Name y py] kt pt] (.Tuple [a, b] k2 pt2) X.env = pure (some [x, y]))
    (hs : swapsWithSole [.Tuple [.Name x px, .Name y py] kt pt] (.Tuple [a, b] k2 pt2) pos.line X.env = pure false := by rfl)
    (na : starEach [a, b] X.env = (false, eval a X.env) :: starEach [b] X.env := by rfl) (nb : starEach [b] X.env = (false, eval b X.env) :: starEach [] X.env := by rfl) :
    PS X (.Assign [.Tuple [.Name x px, .Name y py] kt pt] (.Tuple [a, b] k2 pt2) pos) (tS C W G (sPar G.io i j ga gb)) := psd_parS hio hc hN hi hj hij hx hy ha (fun G' h _ => hb G' h) hw hs na nb
end
end DL
namespace DL
open PySem PySem.Spec L2
open PyProof.Rows hiding St
abbrev TM := Str → TS
structure PM (X : Cx) (cs : List MatchCase) (t : TM) : Prop where
  run : ∀ (pins : List (Addr × Obj)) (s : Shared) (σ : St) (H : Hp) (D : Ends) (x : Str) (tk : Tok) (first : Bool), Inv X pins σ H s → t x D σ H → wpAny (model X.prog X.w) X.A (matchCases cs X.env (.str x tk) first) (SP X pins D) X.xe s
section
variable {X : Cx} {cs rest : List MatchCase} {body : List Stmt} {tb : TS} {tr : TM}
theorem pm_any {p : Pos} (hb : PSs X body tb) : PM X [⟨.MatchAs none none p, none, body⟩] (fun _ => tb) := ⟨fun pins s σ H D x tk first I h => by
  refine wpAny_matchCases_cons (wpAny_matchPattern_Capture ?_)
  exact wpAny_assignInOrder_none (hb.run pins s σ H D I h)⟩
theorem pm_case {lit : Str} {j : Nat} {p1 p2 : Pos} (hb : PSs X body tb) (hr : PM X rest tr) : PM X (⟨.MatchValue (.Constant (.str lit) j p1) p2, none, body⟩ :: rest) (fun x D σ H => if x = lit then tb D σ H else tr x D σ H) := ⟨fun pins s σ H D x tk first I h => by
  refine wpAny_matchCases_cons (wpAny_matchPattern_Value ?_)
  refine thn ((pe_str (X := X) (x := lit) (j := j) (pos := p1)).run pins s σ H (fun v H1 => v = V.str lit ∧ H1 = H) I ⟨rfl, rfl⟩) fun u s1 ⟨v, H1, I1, r1, ev, eH⟩ => ?_
  subst ev
  rw [eH] at I1
  refine thn (op_eq pins s1 σ H (.str x) (.str lit) (.str x tk) u (fun z H2 => z = V.bl (decide (x = lit)) ∧ H2 = H) I1 ⟨tk, rfl⟩ r1 ⟨rfl, by simp [dec_str], rfl⟩) fun c s2 ⟨z, H2, I2, r2, ez, eH2⟩ => ?_
  subst ez
  rw [eH2] at I2
  cases r2
  refine wpAny_truthy_bool ?_
  by_cases e : x = lit
  · rw [if_pos e] at h
    rw [decide_eq_true e]
    exact wpAny_assignInOrder_none (hb.run pins s2 σ H D I2 h)
  · rw [if_neg e] at h
    rw [decide_eq_false e]
    exact hr.run pins s2 σ H D x tk false I2 h⟩
theorem ps_matchS {a : Expr} {ta : TE} {pos : Pos} (ha : PE X a ta) (hm : PM X cs tr) : PS X (.Match a cs pos) (fun D σ H => ta σ H fun v H1 => ∃ x, v = .str x ∧ tr x D σ H1) := ⟨fun pins s σ H D I h => by
  refine wpAny_Match (thn (ha.run pins s σ H _ I h) fun u s1 ⟨v, H1, I1, r1, x, ev, q⟩ => ?_)
  subst ev
  obtain ⟨tk, rfl⟩ := r1
  exact hm.run pins s1 σ H1 D x tk true I1 q⟩
end
def mAny (g : Sl → SV) : Str → Sl → SV := fun _ => g
def mCase (lit : Str) (g : Sl → SV) (r : Str → Sl → SV) : Str → Sl → SV := fun x δ => if x = lit then g δ else r x δ
def sMatch (ga : Sl → EV) (m : Str → Sl → SV) : Sl → SV := fun δ => (ga δ).bind fun v δ1 => match v.1 with
  | .str x => m x δ1
  | _ => .stk
def tMd (C : Ct) (W : WX) (G : Gh) (m : Str → Sl → SV) : TM := fun x D σ H => ∃ δ, ERel C G δ σ H ∧ PostS C W G δ σ H D (m x δ)
section
variable {C : Ct} {W : WX} {G : Gh} {X : Cx} {cs rest : List MatchCase} {body : List Stmt} {g : Sl → SV} {m : Str → Sl → SV} {a : Expr} {ga : Sl → EV} {pos : Pos}
theorem PM.imp {t t' : TM} (h : PM X cs t) (hi : ∀ x D σ H, t' x D σ H → t x D σ H) : PM X cs t' := ⟨fun pins s σ H D x tk first I q => h.run pins s σ H D x tk first I (hi x D σ H q)⟩
theorem pmd_any {p : Pos} (hb : PSs X body (tS C W G g)) : PM X [⟨.MatchAs none none p, none, body⟩] (tMd C W G (mAny g)) := PM.imp (pm_any hb) fun x D σ H h => h
theorem pmd_case {lit lit' : Str} {j : Nat} {p1 p2 : Pos} (e : lit = lit') (hb : PSs X body (tS C W G g)) (hr : PM X rest (tMd C W G m)) : PM X (⟨.MatchValue (.Constant (.str lit) j p1) p2, none, body⟩ :: rest) (tMd C W G (mCase lit' g m)) := by
  subst e
  refine PM.imp (pm_case hb hr) fun x D σ H ⟨δ, E, p⟩ => ?_
  unfold mCase at p
  split at p
  · rename_i q
    rw [if_pos q]
    exact ⟨δ, E, p⟩
  · rename_i q
    rw [if_neg q]
    exact ⟨δ, E, p⟩
theorem psd_match (ha : PE X a (tD C W G ga)) (hm : PM X cs (tMd C W G m)) : PS X (.Match a cs pos) (tS C W G (sMatch ga m)) := PS.imp (ps_matchS ha hm) fun D σ H ⟨δ, E, p⟩ =>
  ⟨δ, E, (PostS.bindE p).imp fun y δ1 H1 E1 X1 p1 v rv _ => by
    obtain ⟨d, fr⟩ := y
    cases d <;> first | exact (show False from p1).elim | skip
    cases rv
    exact ⟨_, rfl, δ1, E1, p1⟩⟩
/-- a tuple of texts stands in the written part -/
def StrTup (K : PySem.W.Frag) (a : Addr) (xs : List Str) : Prop := ∃ (o : Obj) (its : Array Value) (n : Nat), K.lookup a = some o ∧ o.cls = .type "tuple" ∧ o.data = .seq its n ∧ its.size ≤ sizeLine ∧ Vals (xs.map V.str) its.toList
theorem pd_globT {x : Str} {u : Addr} {xs : List Str} (hg : Gl X x) (hm : X.mg x = some (.ref u)) (ht : StrTup C.K u xs) (hd : (x == ("__debug__" : Str)) = false := by decide) : PE X (.Name x pos) (tD C W G (gC (.tuple (xs.map PyData.str)))) :=
  pd_C (pe_glob (v := .ref u) hg hm rfl hd) fun W H => .tup (.non (.inr ht) (by cases xs <;> rfl)) (rep_strs (K := C.K) xs)
theorem pd_globI {x : Str} {i : Int} {t : Tok} (hg : Gl X x) (hm : X.mg x = some (.int i t)) (hd : (x == ("__debug__" : Str)) = false := by decide) : PE X (.Name x pos) (tD C W G (gC (.int i))) :=
  pd_C (pe_glob (v := .int i) hg hm ⟨t, rfl⟩ hd) fun W H => .int i
/-- a built-in class as a value -/
theorem pd_tyb {x : Str} {n : String} {k : Nat} (hg : Gl X x) (hm : X.mg x = none) (hv : bootBuiltins x = some (.type n)) (hk : tyNames[k]? = some n) (hn : x ≠ "__name__" := by decide) (hd : (x == ("__debug__" : Str)) = false := by decide) :
    PE X (.Name x pos) (tD C W G (gC (.dict [(.bool false, .int (-(k : Int) - 1))]))) := pd_C (pe_bltn (v := .ty n) hg hm hv rfl hn hd) fun W H => .tyb hk
def dBits : D → Option (D × Bool)
  | .int i => some (.int (Builtin.Int.intBits i : Nat), false)
  | _ => none
theorem pd_bits {apos : Pos} (ha : PE X a (tD C W G ga)) (hbase : attributeBase a "bit_length" X.env (eval a X.env) = eval a X.env := by rfl) (hline : (apos.endLine == pos.line) = true := by rfl) : PE X (.Call (.Attribute a "bit_length" apos) [] [] pos) (tD C W G (gUn dBits ga)) :=
  PE.imp (pe_bits ha hbase hline) fun σ H Q ⟨δ, E, p⟩ => ⟨δ, E, (Post.bind p).imp fun x δ1 H1 E1 X1 p1 v rv _ => by
    obtain ⟨q, e, p2⟩ := fin_ok (p1.at X1)
    obtain ⟨d, fr⟩ := x
    cases d <;> first | cases e | skip
    cases rv
    exact ⟨_, rfl, p2 H1 E1 Ext.refl _ (.int _) fun z => nomatch z⟩⟩
def sStk : Sl → SV := fun _ => .stk
theorem psd_stk {st : Stmt} : PS X st (tS C W G sStk) := ⟨fun pins s σ H D I ⟨δ, E, p⟩ => p.elim⟩
end
end DL
namespace DL
open PySem PySem.Spec L2
open PyProof.Rows hiding St
theorem ioE {P : Gh → Prop} {io : List Nat} (h : ∀ (F O : Addr → Prop) (x1 : ∀ i, i + 1000 ∈ io → i ∈ io) (iv : Ct → Sl → (Addr → Prop) → Hp → Prop)
    (x2 : ∀ C δ W H δ' W' H', iv C δ W H → PL H H' → (∀ i, i + 1000 ∈ io → δ'[i]? = δ[i]?) → (∀ v d, Rep C W H v d → Rep C W' H' v d) → iv C δ' W' H')
    (x3 : ∀ C δ W H, iv C δ W H → ∀ i, i + 1000 ∈ io → ∃ d, δ[i]? = some (some (false, d))), P ⟨F, O, io, x1, iv, x2, x3⟩) : ∀ G : Gh, G.io = io → P G := fun ⟨F, O, _, x1, iv, x2, x3⟩ e => by
  cases e
  exact h F O x1 iv x2 x3
theorem u65 {k : Nat} {A : Around} (h : Room k A) : A.units + 65 < cLine := by have := h.un; omega
theorem u64 {k : Nat} {A : Around} (h : Room k A) : A.units + 64 < cLine := by have := h.un; omega
def seqOf : D → Option (List D)
  | .list xs => some xs
  | .tuple xs => some xs
  | .dict [(.bool true, .list xs)] => some xs
  | _ => none
def giSeq (ga : Sl → EV) : Sl → R Sl (List D) := fun δ => (ga δ).bind fun x δ1 => match seqOf x.1 with
  | some ds => .ok ds δ1
  | none => .stk
section
variable {C : Ct} {W : WX} {G : Gh} {X : Cx} {tg a : Expr} {ga : Sl → EV}
theorem pid_seq (ha : PE X a (tD C W G ga)) (hK : X.K = C.K := by rfl) : PI X tg a (tI C W G (giSeq ga)) := ⟨fun pins s σ H R I ⟨δ, E, p⟩ => by
  unfold giSeq at p
  have hl : tI C W G (giList ga) σ H R ∨ tI C W G (giTup ga) σ H R := by
    cases q : ga δ with
    | exc c xs d =>
      refine .inl ⟨δ, E, ?_⟩
      unfold giList
      rw [q] at p ⊢
      exact p
    | stk =>
      rw [q] at p
      exact p.elim
    | ok x δ1 =>
      rw [q] at p
      obtain ⟨d, fr⟩ := x
      have p : Post C W G δ σ H (kI C G σ R) (match seqOf d with
        | some ds => .ok ds δ1
        | none => .stk) := p
      cases hs : seqOf d with
      | none => rw [hs] at p; exact p.elim
      | some ds =>
        rw [hs] at p
        unfold seqOf at hs
        split at hs
        · cases hs
          refine .inl ⟨δ, E, ?_⟩
          unfold giList
          rw [q]
          exact p
        · cases hs
          refine .inr ⟨δ, E, ?_⟩
          unfold giTup
          rw [q]
          exact p
        · cases hs
          refine .inl ⟨δ, E, ?_⟩
          unfold giList
          rw [q]
          exact p
        · cases hs
  rcases hl with h | h
  · exact (pid_list (tg := tg) ha hK).run pins s σ H R I h
  · exact (pid_tup (tg := tg) ha hK).run pins s σ H R I h⟩
end
def scrD (ns : List Int) : D := .dict [(.bool true, .list (ns.map PyData.int))]
theorem rep_ints {C : Ct} {W : Addr → Prop} {H : Hp} : ∀ ns : List Int, RepL C W H (ns.map V.int) (ns.map PyData.int)
  | [] => .nil
  | n :: ns => .cons (.int n) (rep_ints ns)
theorem sp_end {C : Ct} {f : List D → R (List D) (D × Bool)} {H : Hp} {a : Addr} {ns : List Int} (hf : ∃ fr outs, f [scrD ns] = .ok (.bool true, fr) outs) (hO : Only H) (hS : SqL C.K H a (ns.map V.int)) :
    spD C [] 1 f [.ref a] H (fun v _ => v = .bl true) fun _ _ _ => False := by
  obtain ⟨fr, outs, e⟩ := hf
  have nl : ∀ (b : Addr) (ys : List V), H b ≠ some (.lst ys) := fun b ys z => by
    rcases hO b with q | ⟨o, xs, q⟩
    · rw [q] at z; cases z
    · rw [q] at z; cases z
  have hs : ScrAt C.K H a (ns.map V.int) := by
    rcases hS with (h | h) | h
    · exact absurd h (nl a _)
    · exact .inl h
    · exact .inr h
  refine ⟨[scrD ns], fun _ => False, rfl, ⟨rfl, fun i v d _ h1 h2 => ?_, fun i v d h => absurd h (by simp), fun i j b h => absurd h (by simp), fun _ z => z.elim, fun b ys z => absurd z (nl b ys)⟩, ?_⟩
  · cases i with
    | zero =>
      have e1 : V.ref a = v := by simpa using h1
      have e2 : scrD ns = d := by simpa using h2
      subst e1
      subst e2
      exact .scr hs (rep_ints ns)
    | succ i => simp at h1
  · rw [e]
    intro v H' _ rv _
    cases rv
    rfl
theorem cx_end {P : Program} {w : World} {H : Hp} {s : Shared} {e : Value} {s' : Shared} : L2.CX P w [] H s (fun _ _ _ => False) e s' → False := fun ⟨_, _, _, _, _, _, _, _, _, _, _, _, h⟩ => h
/-- the law's def, called behind the top -/
theorem law_callG {P : Program} {w : World} {K : PySem.W.Frag} {mg mb : Str → Option Value} {cx : CXT} {k : Nat} {fa a : Addr} {fd : FuncData} {x : Str} {sp : Sp} {t : Shared} {vs : List Value} {ns : List Int} (inK : K.In t.heap) (hns : t.heap.Ns mainGlobals mg) (hbn : t.heap.Ns builtinsNs mb)
    (hbb : ∀ x : Str, x ≠ "__name__" → mb x = bootBuiltins x) (nolim : t.heap.NoLimit) (gens : t.gens = #[]) (scr : t.heap.get? a = some { cls := .type "list", data := .seq vs.toArray }) (whole : IntsAre vs ns) (short : ns.length ≤ sizeLine) (hr : Room k callerA)
    (F : ∀ base : Heap, K.In base → base.Ns mainGlobals mg → FnG P w K mg base cx k fa fd [x] sp) (bind : ∀ (s : Shared) (u : Value), BindsTo s fd ⟨[u], []⟩ [(x, u)]) (wish : ∀ H : Hp, Only H → SqL K H a (ns.map V.int) → sp [.ref a] H (fun v _ => v = .bl true) fun _ _ _ => False)
    (noExc : ∀ H e s', cx [] H t (fun _ _ _ => False) e s' → False) : codeAny (model P w) callerA (.call (.ref fa) ⟨[.ref a], []⟩) (fun r s' => r = .ok (.ret (.bool true)) ∧ OldK t.heap s'.heap ∧ s'.os = t.os ∧ AllBare s'.gens) t := by
  have items := vals_ints whole
  have cnt := whole.length
  have main : ∀ H : Hp, Only H → SqL K H a (ns.map V.int) → HOk P w H t.heap → (∀ b, H b ≠ none → b = a) → (H a ≠ none → K.lookup a = none) →
      codeAny (model P w) callerA (.call (.ref fa) ⟨[.ref a], []⟩) (fun r s' => r = .ok (.ret (.bool true)) ∧ OldK t.heap s'.heap ∧ s'.os = t.os ∧ AllBare s'.gens) t := fun H only sq ok sole fresh => by
    have hid : ∀ {b : Addr} {o : Obj}, t.heap.get? b = some o → H b = none → (hidT t.heap H).get? b = some o := fun e z => hidT_get e z
    have track : ∀ {b : Addr}, H b ≠ none → b = a := fun {b} z => sole b z
    have dictFree : ∀ {b : Addr} {o : Obj} {es : Array DictEntry} {ep : Nat}, t.heap.get? b = some o → o.data = .dict es ep → H b = none := fun {b o es ep} e d => Decidable.byContradiction fun z => by
      have hb := track z
      subst hb
      rw [scr] at e
      cases e
      exact absurd d (by intro q; cases q)
    have names : ∀ {b : Addr} {m : Str → Option Value}, t.heap.Ns b m → (hidT t.heap H).Ns b m := fun ⟨o, es, ep, e, d, r⟩ => ⟨o, es, ep, hid e (dictFree e d), d, r⟩
    have baseK : K.In (hidT t.heap H) := fun b o e => hid (inK b o e) (Decidable.byContradiction fun z => by
      have hb := track z
      subst hb
      rw [fresh z] at e
      cases e)
    obtain ⟨mc, n1, n2⟩ := nolim
    have md : Mod K mg (hidT t.heap H) := ⟨baseK, names hns, ⟨mb, names hbn, hbb⟩, mc, names n1, n2⟩
    have env : Env0 P w K mg (hidT t.heap H) callerA [] t H := ⟨rfl, md, fun b o e => of_hidT e, Nat.le_of_eq (hidT_size _ _), trivial, fun b z => (List.not_mem_nil z).elim, ok, .of_eq gens⟩
    refine codeAny_mono ((F _ baseK (names hns)).go callerA [] t H ⟨[.ref a], []⟩ [.ref a] [.ref a] _ _ rfl hr env (bind t (.ref a)) (.cons rfl .nil) (wish H only sq)) fun r s' h => ?_
    match r, h with
    | .error e, h => exact (noExc H e s' h).elim
    | .ok (.ret u), h =>
      obtain ⟨v, H', os, bare, un, ok', rv, (hv : v = V.bl true)⟩ := h
      subst hv
      cases (show u = Value.bool true from rv)
      refine ⟨rfl, OldK.of_keep fun b o e => ?_, os, bare⟩
      rcases only b with z | ⟨ob, xs, z⟩
      · exact un.keep b o e z (fun q => List.not_mem_nil q) (fun q => List.not_mem_nil q)
      · have e1 := (ok b _ z).1
        rw [e] at e1
        cases e1
        exact (ok' b _ (un.frzs b _ _ z)).1
  by_cases hk : K.lookup a = none
  · let H0 : Hp := fun b => if b = a then some (.frz { cls := .type "list", data := .seq vs.toArray } (.lst (ns.map V.int))) else none
    have at_a : H0 a = some (.frz { cls := .type "list", data := .seq vs.toArray } (.lst (ns.map V.int))) := if_pos rfl
    have off : ∀ b, b ≠ a → H0 b = none := fun b z => if_neg z
    refine main H0 (fun b => ?_) (.inl (.inr ⟨_, at_a⟩)) (fun b u z => ?_) (fun b z => Decidable.byContradiction fun n => z (off b n)) fun _ => hk
    · by_cases hb : b = a
      · subst hb; exact .inr ⟨_, _, at_a⟩
      · exact .inl (off b hb)
    · by_cases hb : b = a
      · subst hb
        rw [at_a] at z
        cases z
        exact ⟨scr, by rw [List.length_map]; exact short, vs, _, items, scr⟩
      · rw [off b hb] at z
        cases z
  · obtain ⟨o, ho⟩ : ∃ o, K.lookup a = some o := by
      cases h : K.lookup a with
      | none => exact absurd h hk
      | some o => exact ⟨o, rfl⟩
    have e := inK a o ho
    rw [scr] at e
    cases e
    exact main (fun _ => none) (fun _ => .inl rfl) (.inr ⟨_, _, _, ho, rfl, rfl, rfl, by rw [List.size_toArray, cnt]; exact short, by simpa using items⟩) (fun b u z => nomatch z) (fun b z => absurd rfl z) fun z => absurd rfl z
theorem walk_end {l : PySem.W.OpenLaw} {k : Nat} {q : Program} {loose : List Str} {XP : (Str → Option Value) → Heap → Prop} {YP : World → Heap → Prop} {d : DefRec} {K : Params → PySem.W.Frag} {x : Str} {f : List D → R (List D) (D × Bool)}
    (hn : l.most = some 63) (hdf : d.params.defaults = []) (hr : Room k callerA) (hY : ∀ (w : World) (h : Heap), YP w h → (K w.params).In h)
    (hf : ∀ ns : List Int, ns.length ≤ 63 → (∀ z ∈ ns, Builtin.Int.intBits z ≤ 1048576) → ∃ fr outs, f [scrD ns] = .ok (.bool true, fr) outs)
    (F : ∀ (w : World) (mg : Str → Option Value) (fa : Addr) (h : Heap), (K w.params).In h → h.Ns mainGlobals mg → mg d.name = some (.ref fa) →
      ∃ (C : Ct) (fd : FuncData), C.K = K w.params ∧ (∀ (s : Shared) (u : Value), BindsTo s fd ⟨[u], []⟩ [(x, u)]) ∧ ∀ base : Heap, (K w.params).In base → base.Ns mainGlobals mg → FnG l.prog w (K w.params) mg base (L2.CX l.prog w) k fa fd [x] (spD C [] 1 f)) :
    PySem.W.WalkO q loose XP YP l.row.toRowW d [] (fun f vs => PySem.call f vs) :=
  Att.attach_callB hn hdf fun w s₀ t mg mb fa o pm cd doc a vs ns G Y ho hd hcd hmg hobj hints hlen hbits hg => by
    obtain ⟨C, fd, e, bind, ok⟩ := F w mg fa _ (hY w _ Y) G.T.g hmg
    exact law_callG (sp := spD C [] 1 f) (hY w _ Y) G.T.g G.T.b G.T.builtins G.T.nolimit hg hobj hints (Nat.le_trans hlen (by rw [sizeLine_eq]; decide)) hr ok bind (fun H hO hS => sp_end (hf ns hlen hbits) hO (by rw [e]; exact hS)) fun H e' s' => cx_end
end DL
namespace DL
open PySem PySem.Spec L2
open PyProof.Rows hiding St
def dAddI : DOp
  | .int i, .int j => some (.int (i + j), false)
  | _, _ => none
theorem od_addI {C : Ct} : OpD C (rI0 fun i j => .int (i + j)) dAddI := ok_I0 (h := fun i j => .int (i + j)) (fun v w p e => by unfold dAddI at e; split at e <;> first | exact ⟨_, _, rfl, rfl, (Option.some.inj e).symm⟩ | cases e) fun i j W H => .int _
section
variable {C : Ct} {W : WX} {G : Gh} {X : Cx}
theorem psd_raiseX {x m : Str} {j c : Nat} {p p2 pos pos2 : Pos} (hc : X.calm = true) (tk : Takes X W) (q : PySem.W.excIn X.K (C.cl c) [.type "ValueError", .type "Exception", .type "BaseException", .type "object"] "ValueError.__new__" = true) (gC : X.mg x = some (.ref (C.cl c))) (kC : PySem.W.keepIn X.K (.ref (C.cl c)) = true)
    (h1 : PySem.W.subIn X.K (.ref (C.cl c)) (.type "BaseException") = some true) (h2 : PySem.W.typeIn X.K (.ref (C.cl c)) = some (.type "type")) (hg : Gl X x) (hdb : (x == ("__debug__" : Str)) = false := by decide) :
    PS X (.Raise (some (.Call (.Name x p) [.Constant (.str m) j p2] [] pos)) none pos2) (tS C W G (sRaise c)) :=
  psd_raise (ps_raise hc tk (pmk_own PySem.F.excBase_ValueError q gC kC (raises_own h1 h2) hg hdb))
end
end DL
namespace DL
open PySem PySem.Spec L2
open PyProof.Rows hiding St
def dEqA : DOp
  | .str x, .str y => some (.bool (decide (x = y)), false)
  | a, b => dEq a b
def dNeA : DOp
  | .str x, .str y => some (.bool (!decide (x = y)), false)
  | a, b => dNe a b
def rEqA (K : PySem.W.Frag) : R2 := fun x y H Q => (∃ i j, x = .str i ∧ y = .str j ∧ Q (.bl (decide (i = j))) H) ∨ rEqD K x y H Q
def rNeA (K : PySem.W.Frag) : R2 := fun x y H Q => (∃ i j, x = .str i ∧ y = .str j ∧ Q (.bl (!decide (i = j))) H) ∨ rNeD K x y H Q
theorem dec_strV {i j : Str} : decide (V.str i = V.str j) = decide (i = j) := by simp
theorem op_eqA {X : Cx} (hu : X.A.units + 64 < cLine) : OpR X (compareOp .Eq) (rEqA X.K) := OpR.or (fun pins s σ H x y v u Q I rx ry ⟨i, j, e1, e2, q⟩ => by
  subst e1; subst e2
  exact op_eq pins s σ H _ _ v u Q I rx ry ⟨rfl, by rw [dec_strV]; exact q⟩) (op_eqD hu)
theorem op_neA {X : Cx} (hu : X.A.units + 64 < cLine) : OpR X (compareOp .NotEq) (rNeA X.K) := OpR.or (fun pins s σ H x y v u Q I rx ry ⟨i, j, e1, e2, q⟩ => by
  subst e1; subst e2
  exact op_ne pins s σ H _ _ v u Q I rx ry ⟨rfl, by rw [dec_strV]; exact q⟩) (op_neD hu)
theorem od_eqA {C : Ct} : OpD C (rEqA C.K) dEqA := fun G δ σ H x y v w p Q E rx ry e q => by
  unfold dEqA at e
  split at e
  · cases e
    cases rx; cases ry
    exact .inl ⟨_, _, rfl, rfl, atom E q (.bl _)⟩
  · exact .inr (od_eq G δ σ H x y v w p Q E rx ry e q)
theorem od_neA {C : Ct} : OpD C (rNeA C.K) dNeA := fun G δ σ H x y v w p Q E rx ry e q => by
  unfold dNeA at e
  split at e
  · cases e
    cases rx; cases ry
    exact .inl ⟨_, _, rfl, rfl, atom E q (.bl _)⟩
  · exact .inr (od_ne G δ σ H x y v w p Q E rx ry e q)
end DL
namespace DL
open PySem PySem.Spec L2
open PyProof.Rows hiding St
section
variable {X : Cx} {pins : List (Addr × Obj)} {σ : St} {H : Hp} {s : Shared}
/-- an object that was made behind the entry is known from now on -/
theorem track {a : Addr} {o : Obj} {vs : Array Value} (I : Inv X pins σ H s) (ha : s.heap.get? a = some o) (hd : o.data = .fields vs) (na : H a = none) (nL : a ≠ X.env.locals) (new : X.s_0.heap.get? a = none) (np : ∀ p ∈ X.pn ++ pins, p.1 ≠ a) :
    Inv X pins σ (upd H a (XO a o.cls o.dict)) s := by
  have ne : ∀ b, H b ≠ none → b ≠ a := fun b z e => z (by rw [e]; exact na)
  have up : ∀ b u, H b = some u → upd H a (XO a o.cls o.dict) b = some u := fun b u e => by
    rw [upd_ne (ne b (by rw [e]; exact fun z => nomatch z))]
    exact e
  have gone : ∀ b, b ≠ a → H b = none → upd H a (XO a o.cls o.dict) b = none := fun b z e => by
    rw [upd_ne z]
    exact e
  have old : ∀ b u, X.s_0.heap.get? b = some u → b ≠ a := fun b u e z => by
    rw [z, new] at e
    cases e
  refine { ok := I.ok, os := I.os, bare := I.bare, base := ⟨I.base.keep, I.base.slot, fun b u e n x => gone b (old b u e) (I.base.free b u e n x), I.base.there, fun b xs e => up b _ (I.base.tups b xs e), fun b u w e => up b _ (I.base.frzs b u w e), fun b ps e => ?_⟩, loc := I.loc, cell := I.cell, free := gone _ (Ne.symm nL) I.free, freeC := fun x c e => gone c (fun z => ?_) (I.freeC x c e), pin := fun p hp => ?_, hok := fun b u e => ?_, len := I.len }
  · obtain ⟨more, h⟩ := I.base.tbls b ps e
    exact ⟨more, up b _ h⟩
  · obtain ⟨v, ob, e1, e2⟩ := I.cell x c e
    rw [z, ha] at e1
    cases e1
    rw [hd] at e2
    cases e2
  · obtain ⟨e1, e2, e3⟩ := I.pin p hp
    exact ⟨e1, gone _ (np p hp) e2, e3⟩
  · by_cases hb : b = a
    · subst hb
      rw [upd_same] at e
      cases e
      exact ⟨⟨o, vs, ha, rfl, rfl, hd⟩, ⟨o, ha⟩, fun h1 h2 ⟨o', vs', q1, q2⟩ k => ⟨o', vs', k o' q1, q2⟩⟩
    · rw [upd_ne hb] at e
      exact (I.hok b u e).stay (fun _ _ _ q => q) (fun c q => up c _ q) fun c xs q => up c _ q
end
end DL
namespace DL
open PySem PySem.Spec L2
open PyProof.Rows hiding St
def excD (c : Nat) : List D → D
  | [] => .dict [(.none, .int (c : Int))]
  | d :: _ => .dict [(.none, .int (c : Int)), (.none, d)]
def tryEnd (io : List Nat) (i j c : Nat) (xs : List D) (δ1 : Sl) : SV := match δ1[i]? with
  | some (some (true, _)) => .stk
  | _ => if io.contains i || io.contains j || decide (δ1.length ≤ j) then .stk else .ok .nx (((δ1.set i none).set j (some (false, excD c xs))).set i none)
def sTry (io : List Nat) (i j : Nat) (js : List Nat) (g : Sl → SV) : Sl → SV := fun δ => match g δ with
  | .exc c xs δ1 => if c ∈ js then tryEnd io i j c xs δ1 else .stk
  | r => r
end DL
namespace DL
open PySem PySem.Spec L2
open PyProof.Rows hiding St
/-- is class j (own, over TreeError, number 0) under class k -/
def tabE (j : Nat) (k : Int) : Option Bool := if k = -6 then some true else if 0 ≤ k then some (k == (j : Int) || k == 0) else none
def dIsiE (js : List Nat) (ks : List Int) : List D → Option (D × Bool)
  | [.dict [(.none, .int j)], .dict [(.bool false, .int k)]] => if 0 ≤ j ∧ j.toNat ∈ js ∧ k ∈ ks then (tabE j.toNat k).map fun b => (.bool b, false) else none
  | xs => dIsi xs
end DL
namespace DL
open PySem PySem.Spec L2
open PyProof.Rows hiding St
section
variable {C : Ct} {W : WX} {G : Gh} {X : Cx} {δ δ1 : Sl} {σ : St} {H H1 : Hp}
/-- with one more address that no slot may touch -/
theorem Post.plus {α : Type} {p : Addr} {k k' : α → Sl → Hp → Prop} {r : R Sl α} (x : Ext δ σ H δ σ H1) (h : Post C W G δ σ H k r)
    (i : ∀ y δ', (∀ H2, ERel C G δ' σ H2 → Ext δ σ H δ' σ H2 → k y δ' H2) → ∀ H', ERel C (G.plus p) δ' σ H' → Ext δ σ H1 δ' σ H' → k' y δ' H') : Post C W (G.plus p) δ σ H1 k' r := by
  cases r with
  | ok y δ' => exact fun H' E' X' => i y δ' h H' E' X'
  | exc c xs δ' => exact fun cls dct H' E' X' v => h cls dct H' E'.less (x.trans X') ⟨v.1, v.2.imp id fun ⟨dd, v, d, g1, g2, g3, g4⟩ => ⟨dd, v, d, g1, g2, g3, g4.weak fun b z => z.elim (fun q => .inl (.inl q)) .inr⟩⟩
  | stk => exact h.elim
/-- the value of a text -/
def dLook : List Str → List D → D → Option (D × Bool)
  | z :: zs, x :: xs, .str y => if y = z then some (x, false) else dLook zs xs (.str y)
  | _, _, _ => none
def gDictIx (zs : List Str) (gr : Sl → R Sl (List D)) (gk : Sl → EV) : Sl → EV := fun δ => (gr δ).bind fun xs δ1 => (gk δ1).bind fun y δ2 => fin (dLook zs xs y.1) δ2
end
end DL
namespace DL
open PySem PySem.Spec L2
open PyProof.Rows hiding St
theorem u1 {k : Nat} {A : Around} (h : Room k A) : A.units + 1 < cLine := by have := h.un; omega
theorem filterMap_self {α : Type} : ∀ ys : List α, (List.range ys.length).filterMap (fun k => ys[k]?) = ys
  | [] => rfl
  | y :: ys => by
    rw [List.length_cons, List.range_succ_eq_map, List.filterMap_cons, List.filterMap_map]
    show y :: (List.range ys.length).filterMap (fun k => ys[k]?) = _
    rw [filterMap_self ys]
theorem fm_congr {α β : Type} {f g : α → Option β} : ∀ l : List α, (∀ k ∈ l, f k = g k) → l.filterMap f = l.filterMap g
  | [], _ => rfl
  | k :: l, h => by
    rw [List.filterMap_cons, List.filterMap_cons, h k (List.mem_cons_self ..), fm_congr l fun x hx => h x (List.mem_cons_of_mem _ hx)]
theorem pick_rev (its : List Value) : slicePick its.toArray none none (some (-1)) = its.reverse.toArray := by
  have e1 : sliceBounds none none (some (-1)) its.toArray.size = ((its.length : Int) - 1, -1, -1) := by
    simp [sliceBounds]
  have e2 : sliceRange ((its.length : Int) - 1) (-1) (-1) = (List.range its.length).map fun k => its.length - 1 - k := by
    unfold sliceRange
    have c : (if (-1 : Int) > 0 then (if (its.length : Int) - 1 < -1 then (-1 - ((its.length : Int) - 1) + -1 - 1) / -1 else 0) else (if (its.length : Int) - 1 > -1 then ((its.length : Int) - 1 - -1 - -1 - 1) / (- -1) else 0)) = (its.length : Int) := by
      rw [if_neg (by omega)]
      by_cases z : its.length = 0
      · rw [if_neg (by omega)]; omega
      · rw [if_pos (by omega), show -(-1 : Int) = 1 by decide, Int.ediv_one]; omega
    rw [c]
    show (List.range its.length).map _ = _
    refine List.map_congr_left fun k hk => ?_
    have := List.mem_range.mp hk
    omega
  unfold slicePick
  rw [e1]
  dsimp only
  rw [e2, List.filterMap_map]
  congr 1
  have e3 : ∀ k ∈ List.range its.length, (fun x => its.toArray[x]?) (its.length - 1 - k) = its.reverse[k]? := fun k hk => by
    rw [List.getElem?_reverse (List.mem_range.mp hk)]
    simp
  have e4 := filterMap_self its.reverse
  rw [List.length_reverse] at e4
  conv => rhs; rw [← e4]
  exact fm_congr _ e3
section
variable {C : Ct} {W : WX} {G : Gh} {X : Cx} {ga gb : Sl → EV} {a b st : Expr} {p2 pos : Pos}
def tRev (K : PySem.W.Frag) (te : TE) : TE := fun σ H Q => te σ H fun x H1 => ∃ a xs, x = .ref a ∧ SqL K H1 a xs ∧ ∀ p, H1 p = none → Q (.ref p) (upd H1 p (.lst xs.reverse))
theorem vals_reverse : ∀ {xs : List V} {us : List Value}, Vals xs us → Vals xs.reverse us.reverse := by
  intro xs us r
  induction r with
  | nil => exact .nil
  | cons h t ih =>
    rw [List.reverse_cons, List.reverse_cons]
    exact ih.append (.cons h .nil)
theorem pe_m1 {j : Nat} {p p' : Pos} : PE X (.UnaryOp .USub (.Constant (.int 1) j p) p') (tC (.int (-1))) := PE.imp (pe_un un_neg pe_int) fun σ H Q q => ⟨1, rfl, q⟩
theorem pe_rev {te : TE} {j : Nat} {q1 q2 : Pos} (he : PE X a te) : PE X (.Subscript a (.Slice none none (some (.UnaryOp .USub (.Constant (.int 1) j q1) q2)) p2) pos) (tRev X.K te) := by
  have hst : PE X (.UnaryOp .USub (.Constant (.int 1) j q1) q2) (tC (.int (-1))) := pe_m1
  refine ⟨fun pins s σ H Q I h => ?_⟩
  refine Subscript_ (thn (he.run pins s σ H _ I h) fun v s1 ⟨x, H1, I1, r1, q1⟩ => ?_)
  refine wpAny_Slice ?_
  rw [evalPart_none]
  refine wpAny_pure ?_
  refine wpAny_pure ?_
  refine thn ((po_some hst).run pins s1 σ H1 (fun i H' => i = some (-1) ∧ H' = H1) I1 ⟨-1, rfl, rfl, rfl⟩) fun vs s3 ⟨i, H3, I3, ps, ei, eH⟩ => ?_
  subst ei eH
  have I4 : Inv X pins σ H3 { s3 with heap := s3.heap.push { cls := .type "slice", data := .fields #[.none, .none, vs] } } := I3.kept (t' := s3.toks) fun b ob q => Heap.get?_push_of_some _ q
  obtain ⟨l, xs, rfl, hx, q⟩ := q1
  cases r1
  obtain ⟨its, r, ht, hz⟩ := I4.list hx
  have hlen := r.length
  refine tail_any (ops := [.ref l, .ref s3.heap.objs.size]) ht.isList.typeIs slot_list_getitem.lookup ?_ (by with_unfolding_all rfl)
  refine wpAny_getItem_list_slice ht.isList (Heap.IsSliceOf.new ..) .none .none ps (by decide) ?_ (by rw [List.size_toArray] <;> omega)
  rw [pick_rev]
  refine ⟨.ref _, _, I4.laid (t' := s3.toks) (o := .lst xs.reverse) (fun b ob q => Heap.get?_push_of_some _ q) (Nat.le_refl _) ?_, rfl, q _ (I4.hok.fresh (Nat.le_refl _))⟩
  exact ⟨by rw [List.length_reverse]; exact hz, _, 0, vals_reverse r, Heap.get?_push_size _ rfl⟩
def gRev (ga : Sl → EV) : Sl → EV := fun δ => (ga δ).bind fun x δ1 => match x.1 with
  | .list xs => .ok (.list xs.reverse, true) δ1
  | _ => .stk
theorem RepL.rev {W' : Addr → Prop} {H : Hp} : ∀ {vs : List V} {ds : List D}, RepL C W' H vs ds → RepL C W' H vs.reverse ds.reverse
  | _, _, .nil => .nil
  | _, _, .cons r t => by
    rw [List.reverse_cons, List.reverse_cons]
    exact (RepL.rev t).append (RepL.one r)
theorem pd_rev {j : Nat} {q1 q2 : Pos} (ha : PE X a (tD C W G ga)) (hK : X.K = C.K := by rfl) : PE X (.Subscript a (.Slice none none (some (.UnaryOp .USub (.Constant (.int 1) j q1) q2)) p2) pos) (tD C W G (gRev ga)) :=
  PE.imp (hK ▸ pe_rev ha) fun σ H Q ⟨δ, E, p⟩ => ⟨δ, E, (Post.bind p).imp fun x δ1 H1 E1 X1 p1 v rv fv => by
    obtain ⟨d, fr⟩ := x
    clear fv
    cases d <;> first | exact (show False from p1).elim | skip
    rename_i xs
    cases rv with
    | lst n h r =>
      refine ⟨_, _, rfl, SqL.of h, fun q hq => ?_⟩
      have p2 : Post C W G δ1 σ H1 (kE C G δ1 σ H1 Q) (.ok (.list xs.reverse, true) δ1) := p1.at X1
      exact newl E1 (fun u H' E' X' r' f' => p2 H' E' X' u r' f') r.rev (by rw [List.length_reverse]; exact E1.sz _ _ h) hq⟩
def gLstRg1 (ga : Sl → EV) : Sl → EV := fun δ => (ga δ).bind fun x δ1 => match x.1 with
  | .int j => if rgOk 0 j then .ok (.list (rgD 0 j), true) δ1 else .stk
  | _ => .stk
end
end DL
namespace DL
open PySem PySem.Spec L2
open PyProof.Rows hiding St
section
variable {C : Ct} {W : WX} {G : Gh} {X : Cx} {e : Expr} {pos : Pos}
theorem Bor.dp {W' : Addr → Prop} {H : Hp} {v : V} {d : D} (h : Bor C W' H v d) (z : PyData.canLay0 d = true) : Dp C.K H v d := by
  rcases h with h | ⟨a, xs, ds, rfl, rfl, h, r⟩
  · exact h.dp z
  · exact .lst (SqL.of h) (RepL.dp r (by simpa [PyData.canLay0] using z))
end
end DL
namespace DL
open PySem PySem.Spec L2
open PyProof.Rows hiding St
section
variable {C : Ct} {W : WX} {G : Gh} {X : Cx} {a b : Expr} {gb : Sl → EV} {pos : Pos}
theorem Bor.str {W' : Addr → Prop} {H : Hp} {v : V} {x : Str} (h : Bor C W' H v (.str x)) : v = .str x := by
  rcases h with h | ⟨a, xs, ds, rfl, e, _⟩
  · cases h; rfl
  · cases e
end
end DL
namespace DL
open PySem PySem.Spec L2
open PyProof.Rows hiding St
section
variable {C : Ct} {W : WX} {G : Gh} {X : Cx} {a : Expr} {ga : Sl → EV} {pos : Pos}
def sExtend (i : Nat) (ga : Sl → EV) : Sl → SV := fun δ => match δ[i]? with
  | some (some (true, .list _)) => (ga δ).bind fun x δ1 => match δ1[i]?, x.1 with
    | some (some (true, .list ds)), .list es => if ds.length + es.length ≤ LINE then .ok .nx (δ1.set i (some (true, .list (ds ++ es)))) else .stk
    | _, _ => .stk
  | _ => .stk
end
end DL
namespace DL
open PySem PySem.Spec L2
open PyProof.Rows hiding St
section
variable {C : Ct} {W : WX} {G : Gh} {δ δ1 : Sl} {σ : St} {H H1 : Hp} {X : Cx} {a b e : Expr} {ga gb : Sl → EV} {pos : Pos} {io : List Nat}
theorem ps_parT {i j : Nat} {x y : Str} {a b : Expr} {ta : TA} {px py pt : Pos} {kt k2 pt2} (hc : X.calm = true) (hN : X.N.Nodup) (hi : X.N[i]? = some x) (hj : X.N[j]? = some y)
    (hx : Loc X.env.scope x) (hy : Loc X.env.scope y) (fx : X.fn x = true ∨ X.env.scope.names.lookup x = some .local) (fy : X.fn y = true ∨ X.env.scope.names.lookup y = some .local) (ha : PA X [a, b] ta)
    (hw : swappedStores [.Tuple [.Name x px, .Name y py] kt pt] (.Tuple [a, b] k2 pt2) X.env = pure none)
    (hs : swapsWithSole [.Tuple [.Name x px, .Name y py] kt pt] (.Tuple [a, b] k2 pt2) pos.line X.env = pure false)
    (h1 : (assignEach [.Tuple [.Name x px, .Name y py] kt pt] X.env).map (·.2) = [assign (.Tuple [.Name x px, .Name y py] kt pt) X.env])
    (hn : (assignEach [.Name x px, .Name y py] X.env).length = 2) (hst : (assignEach [.Name x px, .Name y py] X.env).findIdx? (·.1) = none)
    (hm : (assignEach [.Name x px, .Name y py] X.env).map (·.2) = [assign (.Name x px) X.env, assign (.Name y py) X.env]) :
    PS X (.Assign [.Tuple [.Name x px, .Name y py] kt pt] (.Tuple [a, b] k2 pt2) pos) (tPar i j ta) := by
  refine ⟨fun pins s σ H D I h => ?_⟩
  refine wpAny_Assign_stores (Tuple_ (thn (ha.run _ pins s σ H _ I h) fun us s1 ⟨vs, H1, I1, r1, q1⟩ => ?_)) hs hw
  obtain ⟨v, w, e1, q1⟩ := q1
  subst e1
  obtain ⟨u1, u2, rfl, rv, rw'⟩ : ∃ u1 u2, us = [u1, u2] ∧ RelV v u1 ∧ RelV w u2 := by
    cases r1 with
    | cons p q =>
      cases q with
      | cons p' q' =>
        cases q'
        exact ⟨_, _, rfl, p, p'⟩
  refine wpAny_newObj_type ?_ (by show 2 ≤ sizeLine; decide)
  have I2 : Inv X pins σ H1 { s1 with heap := s1.heap.push { cls := .type "tuple", data := .seq [u1, u2].toArray } } := I1.kept (t' := s1.toks) fun b o e => Heap.get?_push_of_some _ e
  rw [h1]
  refine assign_Tuple_tuple (items := #[u1, u2]) (I.ok.hd hc) (IsTup.new s1.heap _) hn hst fun h' hx' => ?_
  have I3 := I2.kept (h' := h') (t' := s1.toks) fun b o e => hx' b o (Nat.ne_of_lt (Heap.lt_size e)) e
  rw [hm]
  show wpAny _ _ (assignInOrder [assign (.Name x px) X.env, assign (.Name y py) X.env] [u1, u2]) _ _ _
  refine assignInOrder_cons (wpAny_assign_Name (store_ok I3 hN hi hx rv (fun s2 I4 => ?_) fx))
  refine assignInOrder_cons (wpAny_assign_Name (store_ok I4 hN hj hy rw' (fun s3 I5 => assignInOrder_nil ?_) fy))
  exact ⟨_, H1, I5, q1⟩
theorem psd_parTS {i j : Nat} {x y : Str} {px py pt : Pos} {kt k2 pt2} (hio : G.io = io) (hc : X.calm = true) (hN : X.N.Nodup) (hi : X.N[i]? = some x) (hj : X.N[j]? = some y) (hij : i ≠ j)
    (hx : Loc X.env.scope x) (hy : Loc X.env.scope y) (ha : PE X a (tD C W G ga)) (hb : ∀ G', G'.io = io → G'.iv = G.iv → PE X b (tD C W G' gb))
    (hw : swappedStores [.Tuple [.Name x px, .Name y py] kt pt] (.Tuple [a, b] k2 pt2) X.env = pure none := by rfl)
    (hs : swapsWithSole [.Tuple [.Name x px, .Name y py] kt pt] (.Tuple [a, b] k2 pt2) pos.line X.env = pure false := by rfl)
    (na : starEach [a, b] X.env = (false, eval a X.env) :: starEach [b] X.env := by rfl) (nb : starEach [b] X.env = (false, eval b X.env) :: starEach [] X.env := by rfl)
    (fx : X.fn x = true ∨ X.env.scope.names.lookup x = some .local := by first | exact .inl rfl | exact .inr rfl | assumption) (fy : X.fn y = true ∨ X.env.scope.names.lookup y = some .local := by first | exact .inl rfl | exact .inr rfl | assumption)
    (h1 : (assignEach [.Tuple [.Name x px, .Name y py] kt pt] X.env).map (·.2) = [assign (.Tuple [.Name x px, .Name y py] kt pt) X.env] := by rfl)
    (hn : (assignEach [.Name x px, .Name y py] X.env).length = 2 := by rfl) (hst : (assignEach [.Name x px, .Name y py] X.env).findIdx? (·.1) = none := by rfl)
    (hm : (assignEach [.Name x px, .Name y py] X.env).map (·.2) = [assign (.Name x px) X.env, assign (.Name y py) X.env] := by rfl) :
    PS X (.Assign [.Tuple [.Name x px, .Name y py] kt pt] (.Tuple [a, b] k2 pt2) pos) (tS C W G (sPar G.io i j ga gb)) := by
  have hb' : PE X b (tDwS C W io G.iv gb) := ⟨fun pins s σ H Q I ⟨G', h1, h3, h2⟩ => (hb G' h1 h3).run pins s σ H Q I h2⟩
  refine PS.imp (ps_parT hc hN hi hj hx hy fx fy (pa_cons ha (pa_cons hb' pa_nil nb) na) hw hs h1 hn hst hm) fun D σ H ⟨δ, E, p⟩ => ⟨δ, E, ?_⟩
  unfold sPar gPair at p
  cases q1 : ga δ with
  | exc c xs d => rw [q1] at p; exact fun cls dct H' E' X' v => p cls dct σ H' E' X' IoK.refl v
  | stk => rw [q1] at p; exact p
  | ok u δ1 =>
  rw [q1] at p
  intro H1 E1 X1 v rv fv
  -- the second value is reckoned while the first list, if new, is nobody's
  have go : ∀ G1 : Gh, G1.io = io → (G1.Old = G.Old ∧ G1.iv = G.iv) → (∀ b, G1.F b ↔ G.F b ∨ (u.2 = true ∧ v = .ref b)) → ERel C G1 δ1 σ H1 → Got C G (WW G1 δ1 σ) H1 v u →
      tDwS C W io G.iv gb σ H1 fun w H2 => ∃ v' w', [v, w] = [v', w'] ∧ D.nx ((σ.set i (some v')).set j (some w')) H2 := fun G1 h1 hO1 hF1 F1 gv => by
    refine ⟨G1, h1, hO1.2, δ1, F1, ?_⟩
    have p2 : PostS C W G δ σ H D (((gb δ1).bind fun y δ2 => (.ok (u, y) δ2 : R Sl ((PyData × Bool) × (PyData × Bool)))).bind fun z δ1 => match setSlot G.io i (some (z.1.2, z.1.1)) δ1 with
      | some δ2 => match setSlot G.io j (some (z.2.2, z.2.1)) δ2 with
        | some δ3 => .ok .nx δ3
        | none => .stk
      | none => .stk) := p
    cases q2 : gb δ1 with
    | exc c xs d =>
      rw [q2] at p2
      intro cls dct H2 E2 X2 ev
      have wk : ∀ b, WW G d σ b → WW G1 d σ b := fun b z => z.imp (fun q => (hF1 b).mpr (.inl q)) id
      have E2' : ERel C G d σ H2 := by
        refine ⟨E2.len, fun k e h => ?_, fun k e h => ?_, E2.inj, fun b z => E2.fl b ((hF1 b).mpr (.inl z)), fun b z => E2.ol b (by rw [hO1.1]; exact z), E2.sz, G.ivs C _ _ _ _ _ _ (show G.iv C d (WW G1 d σ) H2 by rw [← hO1.2]; exact E2.iv) .refl (fun _ _ => rfl) fun v d r => r.weak wk⟩
        · obtain ⟨t, r1, r2⟩ := E2.sh k e h
          exact ⟨t, r1, r2.weak wk⟩
        · obtain ⟨b, ys, es, r1, r2, r3, r4, r5, r6⟩ := E2.ow k e h
          exact ⟨b, ys, es, r1, r2, r3, r4.weak wk, fun z => r5 ((hF1 b).mpr (.inl z)), fun n => by rw [← hO1.1]; exact r6 (by rw [h1, ← hio]; exact n)⟩
      exact p2 cls dct σ H2 E2' (X1.trans X2) IoK.refl ⟨ev.1, ev.2.imp id fun ⟨dd, v, d, g1, g2, g3, g4⟩ => ⟨dd, v, d, g1, g2, g3, g4.weak wk⟩⟩
    | stk => rw [q2] at p2; exact (show False from p2).elim
    | ok t δ2 =>
    rw [q2] at p2
    have p2 : PostS C W G δ σ H D (match setSlot G.io i (some (u.2, u.1)) δ2 with
      | some δ2 => match setSlot G.io j (some (t.2, t.1)) δ2 with
        | some δ3 => .ok .nx δ3
        | none => .stk
      | none => .stk) := p2
    intro H2 E2 X2 w rw_ fw
    refine ⟨v, w, rfl, ?_⟩
    have set_ok : ∀ {k : Nat} {z : Option (Bool × PyData)} {δa δb : Sl}, setSlot G.io k z δa = some δb → k < δa.length ∧ k ∉ G.io ∧ δb = δa.set k z := fun {k z δa δb} q => by
      unfold setSlot at q
      split at q
      · cases q
      · rename_i hn
        rw [Bool.or_eq_true, not_or] at hn
        have hk := hn.2
        simp at hk
        exact ⟨hk, by simpa using hn.1, (Option.some.inj q).symm⟩
    cases s1 : setSlot G.io i (some (u.2, u.1)) δ2 with
    | none => rw [s1] at p2; exact (show False from p2).elim
    | some δ3 =>
    rw [s1] at p2
    dsimp only at p2
    cases s2 : setSlot G.io j (some (t.2, t.1)) δ3 with
    | none => rw [s2] at p2; exact (show False from p2).elim
    | some δ4 =>
    rw [s2] at p2
    obtain ⟨hi2, ni, rfl⟩ := set_ok s1
    obtain ⟨hj2, nj, rfl⟩ := set_ok s2
    rw [List.length_set] at hj2
    -- the ghost with both
    have fin : ∀ GG : Gh, (GG.Old = G.Old ∧ GG.iv = G.iv) → GG.io = G.io → (∀ b, GG.F b ↔ G.F b ∨ (u.2 = true ∧ v = .ref b) ∨ (t.2 = true ∧ w = .ref b)) → ERel C GG δ2 σ H2 → (∀ b, WW GG δ2 σ b → WW G1 δ1 σ b ∨ H1 b = none) → Got C G (WW GG δ2 σ) H2 w t → (∀ b, t.2 = true → w = .ref b → H1 b = none ∨ Own δ1 σ b) → D.nx ((σ.set i (some v)).set j (some w)) H2 := fun GG hO hI hF EE ww gw nw => by
      have gv2 : Got C G (WW GG δ2 σ) H2 v u := ⟨fun z => (gv.1 z).move X2.kp (fun _ z => .inr z) ww, fun z => by
        obtain ⟨a, xs, ds, e1, e2, n1, n2, e3, r⟩ := gv.2 z
        have na : ¬ Own δ1 σ a := F1.notOwn' ((hF1 a).mpr (.inr ⟨z, e1⟩))
        exact ⟨a, xs, ds, e1, e2, n1, n2, X2.kp.kp a _ e3 fun q => absurd q na, r.move X2.kp (fun _ z => .inr z) ww⟩⟩
      obtain ⟨E3, X3, I3⟩ := store2 (i := i) (j := j) (x := u) (y := t) hij hi2 hj2 ni nj hF hO hI EE (X1.trans X2) gv2 gw (fun b z1 z2 e1 e2 => by
        rcases nw b z2 e2 with q | q
        · obtain ⟨a, xs, ds, g1, _, _, _, g2, _⟩ := gv.2 z1
          rw [e1] at g1; cases g1
          rw [q] at g2; cases g2
        · exact F1.notOwn' ((hF1 b).mpr (.inr ⟨z1, e1⟩)) q) (fun z b e => (fv z).2 b e) (fun z b e => X1.back (nw b z e))
      exact p2 _ _ E3 X3 I3
    by_cases ht : t.2 = true
    · obtain ⟨⟨a2, xs2, ds2, e1, e2, n1, n2, e3, r2, F2⟩, nw⟩ := fw ht
      refine fin (G1.plus a2) hO1 (h1.trans hio.symm) (fun b => ?_) F2 (fun b z => ?_) ⟨fun z => (by rw [ht] at z; cases z), fun _ => ⟨a2, xs2, ds2, e1, e2, by rw [← hO1.1]; exact n1, fun z => n2 ((hF1 a2).mpr (.inl z)), e3, r2⟩⟩ fun b _ e => nw b e
      · constructor
        · rintro (z | z)
          · exact ((hF1 b).mp z).imp id .inl
          · exact .inr (.inr ⟨ht, by rw [z]; exact e1⟩)
        · rintro (z | z | z)
          · exact .inl ((hF1 b).mpr (.inl z))
          · exact .inl ((hF1 b).mpr (.inr z))
          · exact .inr (by have q := z.2; rw [e1] at q; cases q; rfl)
      · rcases z with (z | z) | z
        · exact .inl (.inl z)
        · rw [z]
          exact (nw a2 e1).symm.imp .inr id
        · exact (X2.own b z).imp .inr id
    · have ht' : t.2 = false := by simpa using ht
      refine fin G1 hO1 (h1.trans hio.symm) (fun b => ?_) E2 (fun b z => z.elim (fun q => .inl (.inl q)) fun q => (X2.own b q).imp .inr id) ⟨fun _ => rw_, fun z => absurd z ht⟩ fun b z => absurd z ht
      constructor
      · intro z
        exact ((hF1 b).mp z).imp id .inl
      · rintro (z | z | z)
        · exact (hF1 b).mpr (.inl z)
        · exact (hF1 b).mpr (.inr z)
        · exact absurd z.1 ht
  by_cases hu : u.2 = true
  · obtain ⟨⟨a, xs, ds, e1, e2, n1, n2, e3, r, F1⟩, nn⟩ := fv hu
    refine go (G.plus a) hio ⟨rfl, rfl⟩ (fun b => ?_) F1 ⟨fun z => (by rw [hu] at z; cases z), fun _ => ⟨a, xs, ds, e1, e2, n1, n2, e3, r⟩⟩
    constructor
    · rintro (z | z)
      · exact .inl z
      · exact .inr ⟨hu, by rw [z]; exact e1⟩
    · rintro (z | z)
      · exact .inl z
      · exact .inr (by have q := z.2; rw [e1] at q; cases q; rfl)
  · refine go G hio ⟨rfl, rfl⟩ (fun b => ?_) E1 ⟨fun _ => rv, fun z => absurd z hu⟩
    constructor
    · exact fun z => .inl z
    · rintro (z | z)
      · exact z
      · exact absurd z.1 hu
theorem psd_parT {i j : Nat} {x y : Str} {px py pt : Pos} {kt k2 pt2} (hio : G.io = io) (hc : X.calm = true) (hN : X.N.Nodup) (hi : X.N[i]? = some x) (hj : X.N[j]? = some y) (hij : i ≠ j)
    (hx : Loc X.env.scope x) (hy : Loc X.env.scope y) (ha : PE X a (tD C W G ga)) (hb : ∀ G', G'.io = io → PE X b (tD C W G' gb))
    (hw : swappedStores [.Tuple [.Name x px, .Name y py] kt pt] (.Tuple [a, b] k2 pt2) X.env = pure none := by rfl)
    (hs : swapsWithSole [.Tuple [.Name x px, .Name y py] kt pt] (.Tuple [a, b] k2 pt2) pos.line X.env = pure false := by rfl)
    (na : starEach [a, b] X.env = (false, eval a X.env) :: starEach [b] X.env := by rfl) (nb : starEach [b] X.env = (false, eval b X.env) :: starEach [] X.env := by rfl)
    (fx : X.fn x = true ∨ X.env.scope.names.lookup x = some .local := by first | exact .inl rfl | exact .inr rfl | assumption) (fy : X.fn y = true ∨ X.env.scope.names.lookup y = some .local := by first | exact .inl rfl | exact .inr rfl | assumption)
    (h1 : (assignEach [.Tuple [.Name x px, .Name y py] kt pt] X.env).map (·.2) = [assign (.Tuple [.Name x px, .Name y py] kt pt) X.env] := by rfl)
    (hn : (assignEach [.Name x px, .Name y py] X.env).length = 2 := by rfl) (hst : (assignEach [.Name x px, .Name y py] X.env).findIdx? (·.1) = none := by rfl)
    (hm : (assignEach [.Name x px, .Name y py] X.env).map (·.2) = [assign (.Name x px) X.env, assign (.Name y py) X.env] := by rfl) :
    PS X (.Assign [.Tuple [.Name x px, .Name y py] kt pt] (.Tuple [a, b] k2 pt2) pos) (tS C W G (sPar G.io i j ga gb)) := psd_parTS hio hc hN hi hj hij hx hy ha (fun G' h _ => hb G' h) hw hs na nb fx fy h1 hn hst hm
end
end DL
namespace DL
open PySem PySem.Spec L2
open PyProof.Rows hiding St
end DL
namespace DL
open PySem PySem.Spec L2
open PyProof.Rows hiding St
section
variable {C : Ct} {W : WX} {G : Gh} {X : Cx} {es : List Expr} {pos : Pos}
def gtUnl (gs : List D → Sl → Option Sl) : D → Bool → Sl → Option Sl
  | .list ds, _, δ => gs ds δ
  | _, _, _ => none
end
end DL
namespace DL
open PySem PySem.Spec L2
open PyProof.Rows hiding St
end DL
namespace DL
open PySem PySem.Spec L2
open PyProof.Rows hiding St
end DL
namespace DL
open PySem PySem.Spec L2
open PyProof.Rows hiding St
end DL
namespace DL
open PySem PySem.Spec L2
open PyProof.Rows hiding St
end DL
namespace DL
open PySem PySem.Spec L2
open PyProof.Rows hiding St
def strsD : List D → Option (List Str)
  | [] => some []
  | .str x :: r => (strsD r).map (x :: ·)
  | _ :: _ => none
theorem strs_of {C : Ct} {W : Addr → Prop} {H : Hp} : ∀ {vs : List V} {ds : List D} {ys : List Str}, RepL C W H vs ds → strsD ds = some ys → vs = ys.map V.str
  | _, _, _, .nil, e => by cases e; rfl
  | _, _, ys, .cons (d := d) r t, e => by
    cases d <;> first | (cases e; done) | skip
    rename_i x
    unfold strsD at e
    cases q : strsD _ with
    | none => rw [q] at e; cases e
    | some zs =>
      rw [q] at e
      cases e
      cases r
      rw [strs_of t q]
      rfl
theorem rep_strsM {C : Ct} {W : Addr → Prop} {H : Hp} : ∀ ys : List Str, RepL C W H (ys.map V.str) (ys.map PyData.str)
  | [] => .nil
  | y :: r => .cons (.str y) (rep_strsM r)
section
variable {C : Ct} {W : WX} {G : Gh} {X : Cx} {o e : Expr} {go ge : Sl → EV} {apos pos : Pos}
def gJoin (go ge : Sl → EV) : Sl → EV := fun δ => (go δ).bind fun x δ1 => match x.1 with
  | .str a => (ge δ1).bind fun y δ2 => match y.1 with
    | .list ds => match strsD ds with
      | some ys => if (ys.map (·.length)).sum + ys.length * a.length ≤ 16777216 then .ok (.str (Txt.join a ys), false) δ2 else .stk
      | none => .stk
    | _ => .stk
  | _ => .stk
theorem pd_join (ho : PE X o (tD C W G go)) (he : PE X e (tD C W G ge)) (hK : X.K = C.K := by rfl) (hs : starEach [e] X.env = [(false, eval e X.env)] := by rfl) (hbase : attributeBase o "join" X.env (eval o X.env) = eval o X.env := by rfl) (hline : (apos.endLine == pos.line) = true := by rfl) :
    PE X (.Call (.Attribute o "join" apos) [e] [] pos) (tD C W G (gJoin go ge)) := by
  have h := pe_join ho he hs hbase hline
  rw [hK] at h
  refine PE.imp h fun σ H Q ⟨δ, E, p⟩ => ⟨δ, E, (Post.bind p).imp fun x δ1 H1 E1 X1 p1 v rv fv => ?_⟩
  obtain ⟨x, fx⟩ := x
  clear fv
  cases x <;> first | exact (show False from p1).elim | skip
  rename_i a
  cases rv
  refine ⟨⟨a, rfl⟩, δ1, E1, (Post.bind p1).imp fun y δ2 H2 E2 X2 p2 w rw fw => ?_⟩
  obtain ⟨y, fy⟩ := y
  clear fw
  cases y <;> first | exact (show False from p2).elim | skip
  rename_i ds
  cases rw with
  | lst n hh r =>
    have p3 : Post C W G δ2 σ H2 (kE C G δ σ H Q) (match strsD ds with
      | some ys => if (ys.map (·.length)).sum + ys.length * a.length ≤ 16777216 then .ok (.str (Txt.join a ys), false) δ2 else .stk
      | none => .stk) := p2
    split at p3
    · rename_i ys hy
      split at p3
      · rename_i hl
        rw [strs_of r hy] at hh
        exact ⟨a, _, ys, rfl, rfl, .inl (SqL.of hh), hl, now E2 p3 _ (.str _) fun z => nomatch z⟩
      · exact p3.elim
    · exact p3.elim
def gSplit (go ge : Sl → EV) : Sl → EV := fun δ => (go δ).bind fun x δ1 => match x.1 with
  | .str a => (ge δ1).bind fun y δ2 => match y.1 with
    | .str b => if (b.length == 0) = false ∧ a.length + 2 ≤ LINE ∧ (Txt.split a b).length ≤ LINE then .ok (.list ((Txt.split a b).map PyData.str), true) δ2 else .stk
    | _ => .stk
  | _ => .stk
theorem pd_split (ho : PE X o (tD C W G go)) (he : PE X e (tD C W G ge)) (hs : starEach [e] X.env = [(false, eval e X.env)] := by rfl) (hbase : attributeBase o "split" X.env (eval o X.env) = eval o X.env := by rfl) (hline : (apos.endLine == pos.line) = true := by rfl) :
    PE X (.Call (.Attribute o "split" apos) [e] [] pos) (tD C W G (gSplit go ge)) := by
  refine PE.imp (pe_split ho he hs hbase hline) fun σ H Q ⟨δ, E, p⟩ => ⟨δ, E, (Post.bind p).imp fun x δ1 H1 E1 X1 p1 v rv fv => ?_⟩
  obtain ⟨x, fx⟩ := x
  clear fv
  cases x <;> first | exact (show False from p1).elim | skip
  rename_i a
  cases rv
  refine ⟨⟨a, rfl⟩, δ1, E1, (Post.bind p1).imp fun y δ2 H2 E2 X2 p2 w rw fw => ?_⟩
  obtain ⟨y, fy⟩ := y
  clear fw
  cases y <;> first | exact (show False from p2).elim | skip
  rename_i b
  cases rw
  have p3 : Post C W G δ2 σ H2 (kE C G δ2 σ H2 Q) (if (b.length == 0) = false ∧ a.length + 2 ≤ LINE ∧ (Txt.split a b).length ≤ LINE then .ok (.list ((Txt.split a b).map PyData.str), true) δ2 else .stk) := Post.at p2 (X1.trans X2)
  split at p3
  · rename_i c
    exact ⟨a, b, rfl, rfl, c.1, by rw [← line_eq]; exact c.2.1, fun q hq => newl E2 (fun u H' E' X' r' f' => p3 H' E' X' u r' f') (rep_strsM _) (by rw [List.length_map, ← line_eq]; exact c.2.2) hq⟩
  · exact p3.elim
end
def dInS : DOp
  | .str x, .str z => match x.cps.toList with
    | [c] => some (.bool (decide (c ∈ z.cps.toList)), false)
    | _ => none
  | _, _ => none
theorem od_inS {C : Ct} : OpD C (fun x y H Q => ∃ (c : Nat) (z : Str), x = .str ⟨#[c]⟩ ∧ y = .str z ∧ Q (.bl (decide (c ∈ z.cps.toList))) H) dInS := fun G δ σ H x y v w p Q E rx ry e q => by
  unfold dInS at e
  split at e
  · rename_i a z
    split at e
    · rename_i c hc
      cases e
      cases rx
      cases ry
      refine ⟨c, z, ?_, rfl, atom E q (.bl _)⟩
      obtain ⟨xs⟩ := a
      congr 2
      exact Array.toList_inj.mp hc
    · cases e
  · cases e
def signsD (z : Str) : List D := z.cps.toList.map fun c => .str ⟨#[c]⟩
section
variable {C : Ct} {W : WX} {G : Gh} {X : Cx} {tg a : Expr} {ga : Sl → EV}
theorem src_str {z : Str} : SrcOk C (Its z) (signsD z) (fun _ _ => True) where
  mv := fun _ _ _ _ _ _ _ _ _ => trivial
  go := fun W H i d _ e => by
    unfold signsD at e
    rw [List.getElem?_map] at e
    obtain ⟨c, hc, rfl⟩ := Option.map_eq_some_iff.mp e
    have lt := (List.getElem?_eq_some_iff.mp hc).1
    rw [Array.length_toList] at lt
    refine ⟨lt, fun x H' ⟨hH, c', h1, h2⟩ => ?_⟩
    subst hH
    subst h2
    rw [Array.getElem?_toList] at hc
    rw [hc] at h1
    cases h1
    exact ⟨.inl rfl, .str _⟩
  stop := fun W H i _ h => by
    unfold signsD at h
    rwa [List.length_map, Array.length_toList] at h
def giStr (ga : Sl → EV) : Sl → R Sl (List D) := fun δ => (ga δ).bind fun x δ1 => match x.1 with
  | .str z => .ok (signsD z) δ1
  | _ => .stk
theorem pid_str (ha : PE X a (tD C W G ga)) : PI X tg a (tI C W G (giStr ga)) :=
  PI.imp (pi_str (tg := tg) ha) fun σ H R ⟨δ, E, p⟩ => ⟨δ, E, (Post.bind p).imp fun x δ1 H1 E1 X1 p1 v rv fv => by
    obtain ⟨d, fr⟩ := x
    clear fv
    cases d <;> first | exact (show False from p1).elim | skip
    cases rv
    exact ⟨_, rfl, p1 H1 E1 Ext.refl _ _ src_str trivial⟩⟩
end
end DL
namespace DL
open PySem PySem.Spec L2
open PyProof.Rows hiding St
end DL
namespace DL
open PySem PySem.Spec L2
open PyProof.Rows hiding St
end DL
namespace DL
open PySem PySem.Spec L2
open PyProof.Rows hiding St
end DL
namespace PySem
open MeetsSeq AutoSeq1
end PySem
namespace DL
open PySem PySem.Spec L2
open PyProof.Rows hiding St
end DL
namespace DL
open PySem PySem.Spec L2
open PyProof.Rows hiding St
mutual
def flE : D → Bool
  | .none => true
  | .bool _ => true
  | .int _ => true
  | .str _ => true
  | .tuple xs => flA xs
  | .dict [] => true
  | _ => false
def flA : List D → Bool
  | [] => true
  | d :: r => flE d && flA r
end
mutual
inductive Flt (K : PySem.W.Frag) (H : Hp) : V → D → Prop
  | non : Flt K H .non .none
  | bl (b : Bool) : Flt K H (.bl b) (.bool b)
  | int (i : Int) : Flt K H (.int i) (.int i)
  | str (x : Str) : Flt K H (.str x) (.str x)
  | tup {a : Addr} {xs : List V} {ds : List D} : SqT K H a xs → FltA K H xs ds → Flt K H (.ref a) (.tuple ds)
  | dct {a : Addr} : H a = some (.dK []) → Flt K H (.ref a) (.dict [])
inductive FltA (K : PySem.W.Frag) (H : Hp) : List V → List D → Prop
  | nil : FltA K H [] []
  | cons {v : V} {vs : List V} {d : D} {ds : List D} : Flt K H v d → FltA K H vs ds → FltA K H (v :: vs) (d :: ds)
end
section
variable {C : Ct} {W : Addr → Prop} {H : Hp}
mutual
theorem Rep.fl : ∀ {v : V} {d : D}, Rep C W H v d → flE d = true → Flt C.K H v d
  | _, _, .non, _ => .non
  | _, _, .bl b, _ => .bl b
  | _, _, .int i, _ => .int i
  | _, _, .str x, _ => .str x
  | _, _, .lst _ _ _, z => by simp [flE] at z
  | _, _, .scr _ _, z => by simp [flE] at z
  | _, _, .tup h t, z => .tup h.1 (RepL.fl t (by simpa [flE] using z))
  | _, _, .tyb _, z => by simp [flE] at z
  | _, _, .tyo, z => by simp [flE] at z
  | _, _, .dct _ h, _ => .dct h
  | _, _, .dki _ _, z => by simp [flE] at z
  | _, _, .dkt _ _, z => by simp [flE] at z
  | _, _, .exc0 _, z => by simp [flE] at z
  | _, _, .exc1 _ _ _, z => by simp [flE] at z
theorem RepL.fl : ∀ {vs : List V} {ds : List D}, RepL C W H vs ds → flA ds = true → FltA C.K H vs ds
  | _, _, .nil, _ => .nil
  | _, _, .cons r t, z => by
    rw [flA, Bool.and_eq_true] at z
    exact .cons (Rep.fl r z.1) (RepL.fl t z.2)
end
end
section
variable {X : Cx} {pins : List (Addr × Obj)} {σ : St} {H : Hp} {s : Shared}
theorem dct_reads {a : Addr} (I : Inv X pins σ H s) (hx : H a = some (.dK [])) : Reads s.heap (.ref a) (.dict []) [a] ∧ sysModules ∉ [a] := by
  obtain ⟨_, hs, vs, kv, o, es, ep, ho, hc, hd, _, hp, _⟩ := (show ObjOk X.prog X.w H s.heap a (.dK []) from I.hok a _ hx)
  cases kv
  have e0 : es = #[] := by
    have := hp.length
    exact Array.eq_empty_of_size_eq_zero (by simpa using this)
  subst e0
  refine ⟨.dict (as := []) (bs := []) ho hc.1 hd .nil .nil, fun z => ?_⟩
  rw [List.mem_singleton] at z
  rw [← z] at hs
  simp at hs
mutual
theorem Flt.reads (I : Inv X pins σ H s) : ∀ (d : D) (v : V) (u : Value), Flt X.K H v d → RelV v u → ∃ as, Reads s.heap u d as ∧ sysModules ∉ as
  | .none, _, _, h, r => by
    cases h
    cases r
    exact ⟨_, Reads.none, by simp⟩
  | .bool b, _, _, h, r => by
    cases h
    cases r
    exact ⟨_, Reads.bool b, by simp⟩
  | .int i, _, _, h, r => by
    cases h
    obtain ⟨t, rfl⟩ := r
    exact ⟨_, Reads.int i t, by simp⟩
  | .str x, _, _, h, r => by
    cases h
    obtain ⟨t, rfl⟩ := r
    exact ⟨_, Reads.str x t, by simp⟩
  | .list ds, _, _, h, _ => by cases h
  | .tuple ds, _, _, h, r => by
    cases h with
    | tup hs ha =>
      cases r
      obtain ⟨its, rv, ⟨o, ho, hc, n, hd⟩, _⟩ := I.tuple hs
      obtain ⟨as, hr, hn⟩ := Flt.readsAll I ds _ its ha rv
      exact ⟨_, Reads.tuple ho hc hd hr, hn⟩
  | .dict kvs, _, _, h, r => by
    cases h with
    | dct hx =>
      cases r
      exact ⟨_, dct_reads I hx⟩
theorem Flt.readsAll (I : Inv X pins σ H s) : ∀ (ds : List D) (vs : List V) (us : List Value), FltA X.K H vs ds → Vals vs us → ∃ as, ReadsAll s.heap us ds as ∧ sysModules ∉ as
  | [], _, _, h, r => by
    cases h
    cases r
    exact ⟨_, ReadsAll.nil, by simp⟩
  | d :: ds, _, _, h, r => by
    cases h with
    | cons h1 h2 =>
      cases r with
      | cons r1 r2 =>
        obtain ⟨as, q1, n1⟩ := Flt.reads I d _ _ h1 r1
        obtain ⟨bs, q2, n2⟩ := Flt.readsAll I ds _ _ h2 r2
        exact ⟨_, .cons q1 q2, fun z => (List.mem_append.mp z).elim n1 n2⟩
end
end
end DL
namespace DL
open PySem PySem.Spec L2
open PyProof.Rows hiding St
end DL
namespace DL
open PySem PySem.Spec L2
end DL
namespace DL
open PySem PySem.Spec L2
open PyProof.Rows hiding St
section
variable {C : Ct} {G : Gh} {δ δ1 δ2 : Sl} {σ σ1 σ2 : St} {H H1 H2 : Hp}
/-- from one moment to a later one, but for what stands at a -/
structure XA (a : Addr) (δ : Sl) (σ : St) (H : Hp) (δ' : Sl) (σ' : St) (H' : Hp) : Prop where
  kp : ∀ b o, b ≠ a → H b = some o → (Own δ σ b → ∀ xs, o ≠ .lst xs) → ¬ OC b o → H' b = some o
  hs : ∀ b cl dx fs k, b ≠ a → H b = some (.ins cl dx fs) → IdOf fs k → ∃ fs', H' b = some (.ins cl dx fs') ∧ IdOf fs' k
  th : ∀ b, H b ≠ none → H' b ≠ none
  own : ∀ b, Own δ' σ' b → Own δ σ b ∨ H b = none
theorem XA.of {a : Addr} (x : Ext δ σ H δ1 σ1 H1) : XA a δ σ H δ1 σ1 H1 := ⟨fun b o _ h n no => x.kp.kp b o h n no, fun b cl dx fs k _ h i => x.kp.hs b cl dx fs k h i, x.th, x.own⟩
theorem XA.trans {a : Addr} (x : XA a δ σ H δ1 σ1 H1) (y : XA a δ1 σ1 H1 δ2 σ2 H2) : XA a δ σ H δ2 σ2 H2 where
  kp := fun c o ne h n no => y.kp c o ne (x.kp c o ne h n no) (fun z => by
    rcases x.own c z with q | q
    · exact n q
    · rw [h] at q; cases q) no
  hs := fun c cl dx fs k ne h i => by
    obtain ⟨fs', h1, i1⟩ := x.hs c cl dx fs k ne h i
    exact y.hs c cl dx fs' k ne h1 i1
  th := fun c z => y.th c (x.th c z)
  own := fun c z => by
    rcases y.own c z with q | q
    · exact x.own c q
    · right
      cases e : H c with
      | none => rfl
      | some o => exact absurd q (x.th c (by rw [e]; exact fun z => nomatch z))
theorem XA.upd {a : Addr} {o : HO} : XA a δ σ H δ σ (upd H a o) := ⟨fun b u ne h _ _ => by rw [upd_ne ne]; exact h, fun b cl dx fs k ne h i => ⟨fs, by rw [upd_ne ne]; exact h, i⟩, fun b z => by
    by_cases e : b = a
    · rw [e, upd_same]; exact fun z => nomatch z
    · rw [upd_ne e]; exact z, fun _ z => .inl z⟩
end
section
variable {C : Ct} {W : WX} {G : Gh} {δ δ1 : Sl} {σ σ1 : St} {H H1 : Hp} {X : Cx}
theorem ExcV.less {a : Addr} {cls : Value} {dct : Option Addr} {c : Nat} {xs : List D} (v : ExcV C (WW (G.plus a) δ σ) H cls dct c xs) : ExcV C (WW G δ σ) H cls dct c xs :=
  ⟨v.1, v.2.imp id fun ⟨dd, v, d, g1, g2, g3, g4⟩ => ⟨dd, v, d, g1, g2, g3, g4.weak fun b z => z.elim (fun q => .inl (.inl q)) .inr⟩⟩
end
end DL
namespace DL
open PySem PySem.Spec L2
open PyProof.Rows hiding St
end DL
namespace DL
open PySem PySem.Spec L2
open PyProof.Rows hiding St
section
variable {C : Ct} {W : WX} {G : Gh} {δ δ1 : Sl} {σ σ1 : St} {H H1 : Hp} {X : Cx} {D : Ends}
def noExc : SV → SV
  | .exc _ _ _ => .stk
  | x => x
end
end DL
namespace DL
open PySem PySem.Spec L2
open PyProof.Rows hiding St
end DL
namespace DL
open PySem PySem.Spec L2
open PyProof.Rows hiding St
/-- a field of an object: data, or a list of its own -/
inductive Fv where
  | val (d : D)
  | lst (ds : List D)
/-- an object: its class, its fields -/
structure Ob where
  c : Nat
  fs : List (Str × Fv)
def encF : Str × Fv → D × D
  | (x, .val d) => (.str x, .tuple [d])
  | (x, .lst ds) => (.str x, .list ds)
def encO (o : Ob) : D := .dict ((.int (o.c : Int), .none) :: o.fs.map encF)
def enc (ρ : List Ob) : D := .dict [(.bool true, .bool true), (.none, .list (ρ.map encO))]
section
variable {C : Ct} {W W' : Addr → Prop} {H H' : Hp}
def FvOK (C : Ct) (W : Addr → Prop) (H : Hp) (v : V) : Fv → Prop
  | .val d => Rep C W H v d
  | .lst ds => ∃ l xs, v = .ref l ∧ H l = some (LP l xs) ∧ xs.length ≤ sizeLine ∧ RepL C W H xs ds
def FsOK (C : Ct) (W : Addr → Prop) (H : Hp) : List (Str × V) → List (Str × Fv) → Prop := Paired fun p q => p.1 = q.1 ∧ FvOK C W H p.2 q.2
/-- where an object lies: its place, its dict's, its attributes -/
abbrev Wt := Addr × Addr × List (Str × V)
def ghE (k : Nat) : List (Str × V) → List (Str × V)
  | [] => []
  | (f, v) :: r => (f, v) :: (r ++ [(f, .int (k : Int))])
structure StoW (C : Ct) (W : Addr → Prop) (H : Hp) (ws : List Wt) (ρ : List Ob) : Prop where
  len : ws.length = ρ.length
  ob : ∀ (k : Nat) (w : Wt) (o : Ob), ws[k]? = some w → ρ[k]? = some o → H w.1 = some (.ins (C.cl o.c) w.2.1 (ghE k w.2.2)) ∧ w.2.2 ≠ [] ∧ w.2.2.length < 900 ∧ FsOK C W H w.2.2 o.fs
  uq : ∀ a cl dx fs k, H a = some (.ins cl dx fs) → IdOf fs k → ∃ w, ws[k]? = some w ∧ w.1 = a
  pi : ∀ (k k' i i' : Nat) (w w' : Wt) (o o' : Ob) (f f' : Str) (l : Addr) (ds ds' : List D), ws[k]? = some w → ws[k']? = some w' → ρ[k]? = some o → ρ[k']? = some o' →
    w.2.2[i]? = some (f, .ref l) → w'.2.2[i']? = some (f', .ref l) → o.fs[i]? = some (f, .lst ds) → o'.fs[i']? = some (f', .lst ds') → k = k' ∧ i = i'
def StoOK (C : Ct) (W : Addr → Prop) (H : Hp) (ρ : List Ob) : Prop := ∃ ws, StoW C W H ws ρ
theorem FvOK.move (lk : ∀ a xs, H a = some (LP a xs) → H' a = some (LP a xs)) (mv : ∀ v d, Rep C W H v d → Rep C W' H' v d) {v : V} : ∀ {f : Fv}, FvOK C W H v f → FvOK C W' H' v f
  | .val d, h => mv _ _ h
  | .lst ds, ⟨l, xs, h1, h2, h3, h4⟩ => by
    refine ⟨l, xs, h1, lk _ _ h2, h3, ?_⟩
    clear h1 h2 h3
    induction ds generalizing xs with
    | nil => cases h4; exact .nil
    | cons d ds ih =>
      cases h4 with
      | cons r t => exact .cons (mv _ _ r) (ih _ t)
theorem paired_map {α β : Type} {R S : α → β → Prop} : ∀ {xs : List α} {ys : List β}, Paired R xs ys → (∀ a b, R a b → S a b) → Paired S xs ys := fun h f => Paired.mapP h f
theorem StoW.move {ws : List Wt} {ρ : List Ob} (s : StoW C W H ws ρ) (pl : PL H H') (mv : ∀ v d, Rep C W H v d → Rep C W' H' v d) : StoW C W' H' ws ρ where
  len := s.len
  ob := fun k w o h1 h2 => by
    obtain ⟨a, b, c, d⟩ := s.ob k w o h1 h2
    exact ⟨(pl _ (.ins _ _ _) trivial).mp a, b, c, paired_map d fun p q z => ⟨z.1, z.2.move (fun a xs h => (pl a (LP a xs) ⟨xs, rfl⟩).mp h) mv⟩⟩
  uq := fun a cl dx fs k h i => s.uq a cl dx fs k ((pl _ (.ins _ _ _) trivial).mpr h) i
  pi := s.pi
theorem StoOK.move {ρ : List Ob} (s : StoOK C W H ρ) (pl : PL H H') (mv : ∀ v d, Rep C W H v d → Rep C W' H' v d) : StoOK C W' H' ρ := s.imp fun _ h => h.move pl mv
theorem StoOK.nil (h : ∀ a cl dx fs, H a ≠ some (.ins cl dx fs)) : StoOK C W H [] := ⟨[], rfl, fun k w o e => by simp at e, fun a cl dx fs k e => absurd e (h a cl dx fs), fun k k' i i' w w' o o' f f' l ds ds' e => by simp at e⟩
/-- the object of a handle -/
theorem StoW.at {ws : List Wt} {ρ : List Ob} (s : StoW C W H ws ρ) {v : V} {k : Nat} {o : Ob} (r : Rep C W H v (.dict [(.int (k : Int), .none)])) (ho : ρ[k]? = some o) : ∃ w, ws[k]? = some w ∧ v = .ref w.1 ∧ H w.1 = some (.ins (C.cl o.c) w.2.1 (ghE k w.2.2)) ∧ FsOK C W H w.2.2 o.fs := by
  have key : ∀ d, Rep C W H v d → d = .dict [(.int (k : Int), .none)] → ∃ a cl dx fs, v = .ref a ∧ H a = some (.ins cl dx fs) ∧ IdOf fs k := fun d r e => by
    cases r <;> try (cases e; done)
    rename_i a cl dx fs k' h i
    injection e with e
    injection e with e _
    injection e with e _
    injection e with e
    have e : k' = k := by omega
    subst e
    exact ⟨a, cl, dx, fs, rfl, h, i⟩
  obtain ⟨a, cl, dx, fs, rfl, h, i⟩ := key _ r rfl
  obtain ⟨w, hw, rfl⟩ := s.uq a cl dx fs k h i
  obtain ⟨h1, _, _, h2⟩ := s.ob k w o hw ho
  exact ⟨w, hw, rfl, h1, h2⟩
end
/-- G keeps a store in the slot n -/
structure HasS (G : Gh) (n : Nat) : Prop where
  io : n + 1000 ∈ G.io
  iv : ∀ C δ W H, G.iv C δ W H ↔ ∃ ρ, δ[n]? = some (some (false, enc ρ)) ∧ StoOK C W H ρ
  only : ∀ i, i + 1000 ∈ G.io → i = n
end DL
namespace DL
open PySem PySem.Spec L2
open PyProof.Rows hiding St
/-- the ghost without its look at objects -/
def Gh.triv (G : Gh) : Gh := ⟨G.F, G.Old, G.io, G.ghio, fun _ δ _ _ => ∀ i, i + 1000 ∈ G.io → ∃ d, δ[i]? = some (some (false, d)), fun C δ W H δ' W' H' h _ g _ i hi => by rw [g i hi]; exact h i hi, fun C δ W H h => h⟩
theorem HasS.plus {G : Gh} {n : Nat} (h : HasS G n) (a : Addr) : HasS (G.plus a) n := ⟨h.io, h.iv, h.only⟩
theorem rep_enc {C : Ct} {W : Addr → Prop} {H : Hp} {v : V} {ρ : List Ob} (h : Rep C W H v (enc ρ)) : ∃ a, v = .ref a := by
  have key : ∀ d, Rep C W H v d → d = enc ρ → ∃ a, v = .ref a := fun d r e => by
    cases r <;> first | exact ⟨_, rfl⟩ | (unfold enc at e; cases e; done)
  exact key _ h rfl
section
variable {C : Ct} {W : WX} {G : Gh} {δ δ1 : Sl} {σ : St} {H H1 H' : Hp} {n : Nat} {ρ ρ' : List Ob}
theorem HasS.at (hs : HasS G n) (E : ERel C G δ σ H) : ∃ ρ a, δ[n]? = some (some (false, enc ρ)) ∧ StoOK C (WW G δ σ) H ρ ∧ σ[n]? = some (some (.ref a)) := by
  obtain ⟨ρ, h1, h2⟩ := (hs.iv _ _ _ _).mp E.iv
  obtain ⟨v, h3, h4⟩ := E.sh n _ h1
  obtain ⟨a, rfl⟩ := rep_enc h4
  exact ⟨ρ, a, h1, h2, h3⟩
/-- objects have changed -/
theorem ERel.objs (E : ERel C G δ σ H) (k : Kept (fun _ => False) H H') (th : ∀ a, H a ≠ none → H' a ≠ none) (sz : ∀ a xs, H' a = some (.lst xs) → xs.length ≤ sizeLine) : ERel C G.triv δ σ H' where
  len := E.len
  sh := fun i d h => by
    obtain ⟨v, h1, h2⟩ := E.sh i d h
    exact ⟨v, h1, h2.move k (fun _ z => z.elim) fun a z => .inl z⟩
  ow := fun i d h => by
    obtain ⟨a, xs, ds, h1, h2, h3, h4, h5, h6⟩ := E.ow i d h
    exact ⟨a, xs, ds, h1, h2, k.kp a _ h3 fun z => z.elim, h4.move k (fun _ z => z.elim) fun a z => .inl z, h5, h6⟩
  inj := E.inj
  fl := fun a z => th a (E.fl a z)
  ol := fun a z => th a (E.ol a z)
  sz := sz
  iv := fun i hi => G.ivg _ _ _ _ E.iv i hi
abbrev SF := List D → List Ob → R (List D × List Ob) (D × Bool)
variable {X : Cx} {io : List Nat} {m : Nat} {f : SF} {gi : Sl → R Sl (List It1)} {Q : VK}
end
end DL
namespace DL
open PySem PySem.Spec L2
open PyProof.Rows hiding St
section
variable {C : Ct} {W W' : Addr → Prop} {H H' : Hp}
theorem FsOK.none {fs : List (Str × V)} {gs : List (Str × Fv)} {f : Str} (h : FsOK C W H fs gs) (e : gs.lookup f = none) : fs.lookup f = none := by
  induction h with
  | nil => rfl
  | @cons p q xs ys r t ih =>
    obtain ⟨x, v⟩ := p
    obtain ⟨y, w⟩ := q
    have r1 : x = y := r.1
    subst r1
    cases c : f == x with
    | true => simp only [List.lookup, c] at e; cases e
    | false =>
      simp only [List.lookup, c] at e ⊢
      exact ih e
end
end DL
namespace DL
open PySem PySem.Spec L2
open PyProof.Rows hiding St
end DL
namespace DL
open PySem PySem.Spec L2
open PyProof.Rows hiding St
end DL
namespace DL
open PySem PySem.Spec L2
open PyProof.Rows hiding St
end DL
namespace DL
open PySem PySem.Spec L2
open PyProof.Rows hiding St
end DL
namespace DL
open PySem PySem.Spec L2
open PyProof.Rows hiding St
end DL
namespace DL
open PySem PySem.Spec L2
open PyProof.Rows hiding St
end DL
namespace DL
open PySem PySem.Spec L2
open PyProof.Rows hiding St
end DL
namespace DL
open PySem PySem.Spec L2
open PyProof.Rows hiding St
end DL
namespace DL
open PySem PySem.Spec L2
open PyProof.Rows hiding St
end DL
namespace DL
open PySem PySem.Spec L2
open PyProof.Rows hiding St
end DL
namespace DL
open PySem PySem.Spec L2
open PyProof.Rows hiding St
end DL
namespace DL
open PySem PySem.Spec L2
open PyProof.Rows hiding St
end DL
namespace DL
open PySem PySem.Spec L2
open PyProof.Rows hiding St
end DL
namespace DL
open PySem PySem.Spec L2
open PyProof.Rows hiding St
end DL
namespace DL
open PySem PySem.Spec L2
open PyProof.Rows hiding St
end DL
namespace DL
open PySem PySem.Spec L2
open PyProof.Rows hiding St
end DL
namespace DL
open PySem PySem.Spec L2
open PyProof.Rows hiding St
theorem u2 {k : Nat} {A : Around} (h : Room k A) : A.units + 2 < cLine := by have := h.un; omega
end DL
namespace DL
open PySem PySem.Spec L2
open PyProof.Rows hiding St
end DL
namespace DL
open PySem PySem.Spec L2
open PyProof.Rows hiding St
end DL
namespace DL
open PySem PySem.Spec L2
open PyProof.Rows hiding St
end DL
namespace DL
open PySem PySem.Spec L2
open PyProof.Rows hiding St
inductive ZS where
  | lst (a : Addr)
  | tup (a : Addr)
  | txt (z : Str)
def signsV (z : Str) : List V := z.cps.toList.map fun c => .str ⟨#[c]⟩
def ZS.At (K : PySem.W.Frag) (H : Hp) : ZS → List V → Prop
  | .lst a, xs => SqL K H a xs
  | .tup a, xs => SqT K H a xs
  | .txt z, xs => xs = signsV z
def ZS.It (h : Heap) (it : Addr) (i : Nat) : ZS → Prop
  | .lst a => h.IsListIter it a i
  | .tup a => h.IsTupleIter it a i
  | .txt z => ∃ t, h.IsStrIter it (strIterType z) z t i
theorem ZS.It.at {S : ZS} {h h' : Heap} {it : Addr} {i : Nat} (x : S.It h it i) (e : ∀ o, h.get? it = some o → h'.get? it = some o) : S.It h' it i := by
  cases S with
  | lst a => exact Heap.IsListIter.at (show h.IsListIter it a i from x) e
  | tup a => exact Heap.IsTupleIter.at (show h.IsTupleIter it a i from x) e
  | txt z =>
    obtain ⟨t, o, ho, r⟩ := (show ∃ t, h.IsStrIter it (strIterType z) z t i from x)
    exact ⟨t, o, e o ho, r⟩
theorem ZS.inj {S : ZS} {X : Cx} {pins : List (Addr × Obj)} {σ : St} {H : Hp} {s : Shared} (I : Inv X pins σ H s) {xs ys : List V} (h1 : S.At X.K H xs) (h2 : S.At X.K H ys) : xs = ys := by
  cases S with
  | lst a => exact I.list_inj h1 h2
  | tup a => exact I.tuple_inj h1 h2
  | txt z => exact (show xs = signsV z from h1).trans (show ys = signsV z from h2).symm
def ZS.DAt (C : Ct) (xs : List V) (ds : List D) (W : Addr → Prop) (H : Hp) : ZS → Prop
  | .lst a => LstAt C a xs ds W H
  | .tup a => TupAt C a xs ds W H
  | .txt z => xs = signsV z ∧ ds = signsD z
variable {C : Ct}
theorem ZS.DAt.at {S : ZS} {xs : List V} {ds : List D} {W : Addr → Prop} {H : Hp} (h : S.DAt C xs ds W H) : S.At C.K H xs := by
  cases S with
  | lst a => exact LstAt.sq h
  | tup a => exact h.1
  | txt z => exact h.1
theorem ZS.DAt.mv {S : ZS} {xs : List V} {ds : List D} {W W' O : Addr → Prop} {H H' : Hp} (h : S.DAt C xs ds W H) (k : Kept O H H') (ho : ∀ a, O a → W a) (hw : ∀ a, W' a → W a ∨ H a = none) : S.DAt C xs ds W' H' := by
  cases S with
  | lst a => exact LstAt.mv h k ho hw
  | tup a =>
    have h : SqT C.K H a xs ∧ RepL C W H xs ds := h
    exact ⟨k.sqT h.1, h.2.move k ho hw⟩
  | txt z => exact h
theorem ZS.DAt.rep {S : ZS} {xs : List V} {ds : List D} {W : Addr → Prop} {H : Hp} (h : S.DAt C xs ds W H) : RepL C W H xs ds := by
  cases S with
  | lst a => exact (show LstAt C a xs ds W H from h).2
  | tup a =>
    have h : SqT C.K H a xs ∧ RepL C W H xs ds := h
    exact h.2
  | txt z =>
    obtain ⟨rfl, rfl⟩ := (show xs = signsV z ∧ ds = signsD z from h)
    have go : ∀ cs : List Nat, RepL C W H (cs.map fun c => V.str ⟨#[c]⟩) (cs.map fun c => PyData.str ⟨#[c]⟩) := fun cs => by
      induction cs with
      | nil => exact .nil
      | cons c cs ih => exact .cons (.str _) ih
    exact go _
end DL
namespace DL
open PySem PySem.Spec L2
open PyProof.Rows hiding St
end DL
namespace DL
open PySem PySem.Spec L2
open PyProof.Rows hiding St
end DL
namespace DL
open PySem PySem.Spec L2
open PyProof.Rows hiding St
end DL
namespace DL
open PySem PySem.Spec L2
open PyProof.Rows hiding St
end DL
namespace DL
open PySem PySem.Spec L2
open PyProof.Rows hiding St
end DL
namespace DL
open PySem PySem.Spec L2
open PyProof.Rows hiding St
theorem forD_inv {tgt : D → Bool → Sl → Option Sl} {body : Sl → SV} {ds : List D} (P : Nat → Sl → Prop) {δ : Sl} (h0 : P 0 δ)
    (step : ∀ i d δ, ds[i]? = some d → P i δ → ∃ δ1, tgt d false δ = some δ1 ∧ ∃ δ2, body δ1 = .ok .nx δ2 ∧ P (i + 1) δ2) : ∃ δ', forD tgt body ds δ = .ok .nx δ' ∧ P ds.length δ' := by
  have aux : ∀ (m i : Nat) (δ : Sl), m + i = ds.length → P i δ → ∃ δ', forD tgt body (ds.drop i) δ = .ok .nx δ' ∧ P ds.length δ' := by
    intro m
    induction m with
    | zero =>
      intro i δ e h
      have e : i = ds.length := by omega
      subst e
      rw [List.drop_length]
      exact ⟨δ, rfl, h⟩
    | succ m ih =>
      intro i δ e h
      have hi : i < ds.length := by omega
      rw [List.drop_eq_getElem_cons hi]
      obtain ⟨δ1, h1, δ2, h2, h3⟩ := step i ds[i] δ (List.getElem?_eq_getElem hi) h
      obtain ⟨δ', h4, h5⟩ := ih (i + 1) δ2 (by omega) h3
      refine ⟨δ', ?_, h5⟩
      simp only [forD, h1, h2]
      exact h4
  obtain ⟨δ', h1, h2⟩ := aux ds.length 0 δ rfl h0
  exact ⟨δ', by simpa using h1, h2⟩
/-- .. with an end at k -/
theorem forD_end {tgt : D → Bool → Sl → Option Sl} {body : Sl → SV} {ds : List D} (P : Nat → Sl → Prop) (Q : SV → Prop) {δ : Sl} {k : Nat} (hk : k < ds.length) (h0 : P 0 δ)
    (step : ∀ i d δ, i < k → ds[i]? = some d → P i δ → ∃ δ1, tgt d false δ = some δ1 ∧ ∃ δ2, body δ1 = .ok .nx δ2 ∧ P (i + 1) δ2)
    (stop : ∀ d δ, ds[k]? = some d → P k δ → ∃ δ1, tgt d false δ = some δ1 ∧ ∃ x fr δ2, body δ1 = .ok (.rt x fr) δ2 ∧ Q (.ok (.rt x fr) δ2)) : Q (forD tgt body ds δ) := by
  have aux : ∀ (m i : Nat) (δ : Sl), m + i = k → P i δ → Q (forD tgt body (ds.drop i) δ) := by
    intro m
    induction m with
    | zero =>
      intro i δ e h
      have e : i = k := by omega
      subst e
      rw [List.drop_eq_getElem_cons hk]
      obtain ⟨δ1, h1, x, fr, δ2, h2, h3⟩ := stop ds[i] δ (List.getElem?_eq_getElem hk) h
      simp only [forD, h1, h2]
      exact h3
    | succ m ih =>
      intro i δ e h
      have hi : i < ds.length := by omega
      rw [List.drop_eq_getElem_cons hi]
      obtain ⟨δ1, h1, δ2, h2, h3⟩ := step i ds[i] δ (by omega) (List.getElem?_eq_getElem hi) h
      have h4 := ih (i + 1) δ2 (by omega) h3
      simp only [forD, h1, h2]
      exact h4
  simpa using aux k 0 δ rfl h0
theorem lcD_map {vs : List Nat} {tgt : D → Bool → Sl → Option Sl} {gt : Sl → R Sl Bool} {ge : Sl → EV} {δ : Sl} (f : D → D) : ∀ {ds : List D} (acc : List D),
    (∀ d ∈ ds, ∃ δ1 δ2 δ3 fr, tgt d false δ = some δ1 ∧ gt δ1 = .ok true δ2 ∧ ge δ2 = .ok (f d, fr) δ3 ∧ wipeD δ3 vs = δ) → lcD vs tgt gt ge ds acc δ = .ok (acc ++ ds.map f) δ
  | [], acc, _ => by simp [lcD]
  | d :: r, acc, h => by
    obtain ⟨δ1, δ2, δ3, fr, h1, h2, h3, h4⟩ := h d (by simp)
    have ih := lcD_map (ds := r) f (acc ++ [f d]) fun x hx => h x (by simp [hx])
    simp only [lcD, h1, h2, h3, h4]
    rw [ih]
    simp
/-- a comprehension with an invariant of the state -/
theorem lcD_inv {vs : List Nat} {tgt : D → Bool → Sl → Option Sl} {gt : Sl → R Sl Bool} {ge : Sl → EV} {ds : List D} (P : Nat → List D → Sl → Prop) {δ : Sl} (h0 : P 0 [] δ)
    (step : ∀ i d acc δ, ds[i]? = some d → P i acc δ → ∃ δ1, tgt d false δ = some δ1 ∧ ((∃ δ2 x δ3, gt δ1 = .ok true δ2 ∧ ge δ2 = .ok x δ3 ∧ P (i + 1) (acc ++ [x.1]) (wipeD δ3 vs)) ∨ ∃ δ2, gt δ1 = .ok false δ2 ∧ P (i + 1) acc (wipeD δ2 vs))) :
    ∃ acc δ', lcD vs tgt gt ge ds [] δ = .ok acc δ' ∧ P ds.length acc δ' := by
  have aux : ∀ (m i : Nat) (acc : List D) (δ : Sl), m + i = ds.length → P i acc δ → ∃ acc' δ', lcD vs tgt gt ge (ds.drop i) acc δ = .ok acc' δ' ∧ P ds.length acc' δ' := by
    intro m
    induction m with
    | zero =>
      intro i acc δ e h
      have e : i = ds.length := by omega
      subst e
      rw [List.drop_length]
      exact ⟨acc, δ, rfl, h⟩
    | succ m ih =>
      intro i acc δ e h
      have hi : i < ds.length := by omega
      rw [List.drop_eq_getElem_cons hi]
      obtain ⟨δ1, h1, h2⟩ := step i ds[i] acc δ (List.getElem?_eq_getElem hi) h
      rcases h2 with ⟨δ2, x, δ3, h2, h3, h4⟩ | ⟨δ2, h2, h4⟩
      · obtain ⟨acc', δ', h5, h6⟩ := ih (i + 1) _ _ (by omega) h4
        refine ⟨acc', δ', ?_, h6⟩
        simp only [lcD, h1, h2, h3]
        exact h5
      · obtain ⟨acc', δ', h5, h6⟩ := ih (i + 1) _ _ (by omega) h4
        refine ⟨acc', δ', ?_, h6⟩
        simp only [lcD, h1, h2]
        exact h5
  obtain ⟨acc, δ', h1, h2⟩ := aux ds.length 0 [] δ rfl h0
  exact ⟨acc, δ', by simpa using h1, h2⟩
/-- a while loop: m tells how many turns are left -/
theorem whD_inv {gt : Sl → R Sl Bool} {body : Sl → SV} (P : Nat → Sl → Prop) {n : Nat} {δ : Sl} (h0 : P n δ)
    (step : ∀ m δ, m ≤ n → P m δ → (∃ δ1, gt δ = .ok false δ1 ∧ P 0 δ1 ∧ m = 0 ∧ δ1 = δ) ∨ ∃ m' δ1 δ2, m = m' + 1 ∧ gt δ = .ok true δ1 ∧ body δ1 = .ok .nx δ2 ∧ ∃ m'', m'' ≤ m' ∧ P m'' δ2) (N : Nat) (hN : n < N) : ∃ δ', whD gt body N δ = .ok .nx δ' ∧ P 0 δ' := by
  induction N generalizing n δ with
  | zero => omega
  | succ N ih =>
    rcases step n δ (Nat.le_refl _) h0 with ⟨δ1, h1, h2, _, _⟩ | ⟨m', δ1, δ2, rfl, h1, h2, m'', hm, h3⟩
    · exact ⟨δ1, by simp [whD, h1, R.bind], h2⟩
    · obtain ⟨δ', h4, h5⟩ := ih h3 (fun m δ hm' hp => step m δ (by omega) hp) (by omega)
      exact ⟨δ', by simp [whD, h1, h2, R.bind, h4], h5⟩
theorem intBits_lt {i : Int} {k : Nat} (h : i.natAbs < 2 ^ k) : Builtin.Int.intBits i ≤ k := PyProof.Rows.intBits_le h
theorem dShl_one {j : Int} (h0 : 0 ≤ j) (h1 : j ≤ 100000) : dShl (.int 1) (.int j) = some (.int (2 ^ j.toNat), false) := by
  have e : Builtin.Int.intBits 1 = 1 := by decide
  have c : 0 ≤ j ∧ bitsOk ((Builtin.Int.intBits 1 : Int) + j) = true := ⟨h0, by unfold bitsOk; rw [e]; exact decide_eq_true (by omega)⟩
  show (if 0 ≤ j ∧ bitsOk ((Builtin.Int.intBits 1 : Int) + j) = true then some (PyData.int (1 * 2 ^ j.toNat), false) else none) = _
  rw [if_pos c, Int.one_mul]
theorem dShl_ok {i j : Int} (k : Nat) (hi : i.natAbs < 2 ^ k) (hk : k ≤ 10000000) (h0 : 0 ≤ j) (h1 : j ≤ 100000) : dShl (.int i) (.int j) = some (.int (i * 2 ^ j.toNat), false) := by
  have e := intBits_lt hi
  have c : 0 ≤ j ∧ bitsOk ((Builtin.Int.intBits i : Int) + j) = true := ⟨h0, by unfold bitsOk; exact decide_eq_true (by omega)⟩
  show (if 0 ≤ j ∧ bitsOk ((Builtin.Int.intBits i : Int) + j) = true then some (PyData.int (i * 2 ^ j.toNat), false) else none) = _
  rw [if_pos c]
theorem dShr_ok {i j : Int} (h0 : 0 ≤ j) : dShr (.int i) (.int j) = some (.int (i / 2 ^ j.toNat), false) := by simp only [dShr]; rw [if_pos h0]
theorem dMul_ok {i j : Int} (k l : Nat) (hi : i.natAbs < 2 ^ k) (hj : j.natAbs < 2 ^ l) (hk : k + l ≤ 134217728) : dMul (.int i) (.int j) = some (.int (i * j), false) := by
  have e := intBits_lt hi
  have f := intBits_lt hj
  simp only [dMul]
  rw [if_pos (by unfold bitsOk; exact decide_eq_true (by omega))]
theorem dMod_ok {i j : Int} (h0 : 0 < j) : dMod (.int i) (.int j) = some (.int (i % j), false) := by simp only [dMod]; rw [if_pos h0]
theorem dDiv_ok {i j : Int} (h0 : 0 < j) (h1 : j.natAbs < 2 ^ 9000) : dDiv (.int i) (.int j) = some (.int (i / j), false) := by
  have z : j.natAbs ≠ 0 := by omega
  have c : 0 < j ∧ j.natAbs.log2 < 9000 := ⟨h0, (Nat.log2_lt z).mpr h1⟩
  show (if 0 < j ∧ j.natAbs.log2 < 9000 then some (PyData.int (i / j), false) else none) = _
  rw [if_pos c]
theorem dPow_ok {i j : Int} (k : Nat) (hi : i.natAbs < 2 ^ k) (h0 : 0 ≤ j) (h1 : k * j.toNat ≤ 134217728) : dPow (.int i) (.int j) = some (.int (i ^ j.toNat), false) := by
  have e := intBits_lt hi
  have c : 0 ≤ j ∧ bitsOk ((Builtin.Int.intBits i : Int) * j) = true := ⟨h0, by
    unfold bitsOk
    refine decide_eq_true ?_
    obtain ⟨n, rfl⟩ := Int.eq_ofNat_of_zero_le h0
    have : (Builtin.Int.intBits i) * n ≤ k * n := Nat.mul_le_mul_right _ e
    have h2 : k * n ≤ 134217728 := h1
    have h3 : (Builtin.Int.intBits i) * n ≤ 134217728 := Nat.le_trans this h2
    rw [← Int.natCast_mul]
    exact Int.ofNat_le.mpr h3⟩
  show (if 0 ≤ j ∧ bitsOk ((Builtin.Int.intBits i : Int) * j) = true then some (PyData.int (i ^ j.toNat), false) else none) = _
  rw [if_pos c]
end DL
namespace DL
open PySem PySem.Spec
open PyProof.Rows hiding St
section
variable {s a b : Type} {x : a} {d : s} {f : a → s → R s b} {c : Nat} {xs : List PyData}
theorem e_bind_ok : (R.ok x d : R s a).bind f = f x d := id rfl
theorem e_bind_exc : (R.exc c xs d : R s a).bind f = .exc c xs d := id rfl
theorem e_bind_stk : (R.stk : R s a).bind f = .stk := id rfl
end
section
variable {δ δ1 δ2 : Sl} {i j : Nat} {d e : PyData} {fr fr' : Bool} {io : List Nat} {f f' : DOp} {ga gb gc : Sl → EV} {gr gs : Sl → R Sl (List PyData)} {gt gu : Sl → R Sl Bool} {x y : PyData × Bool} {c : Nat} {xs ys : List PyData}
def kVar (i : Nat) (δ : Sl) : Option (Option (Bool × PyData)) → EV
  | some (some (false, d)) => .ok (d, false) δ
  | some (some (true, d)) => .ok (d, false) (δ.set i (some (false, d)))
  | _ => .stk
theorem e_var : gVar i δ = kVar i δ δ[i]? := by unfold gVar kVar; split <;> simp_all
theorem e_var1 : kVar i δ (some (some (false, d))) = .ok (d, false) δ := id rfl
theorem e_var2 : kVar i δ (some (some (true, d))) = .ok (d, false) (δ.set i (some (false, d))) := id rfl
def kMove (io : List Nat) (i : Nat) (δ : Sl) : Option (Option (Bool × PyData)) → EV
  | some (some (false, d)) => .ok (d, false) δ
  | some (some (true, d)) => if io.contains i then .stk else .ok (d, true) (δ.set i none)
  | _ => .stk
theorem e_move : gMove io i δ = kMove io i δ δ[i]? := by unfold gMove kMove; split <;> simp_all
theorem e_move1 : kMove io i δ (some (some (false, d))) = .ok (d, false) δ := id rfl
theorem e_move2 : kMove io i δ (some (some (true, d))) = if io.contains i then .stk else .ok (d, true) (δ.set i none) := id rfl
theorem e_C : gC d δ = .ok (d, false) δ := id rfl
theorem e_fin1 {q : PyData × Bool} : fin (some q) δ = .ok q δ := id rfl
def kBin2 (f : DOp) (x : PyData × Bool) (y : PyData × Bool) (δ : Sl) : EV := fin (f x.1 y.1) δ
def kBin1 (f : DOp) (gb : Sl → EV) (x : PyData × Bool) (δ : Sl) : EV := (gb δ).bind (kBin2 f x)
theorem e_bin : gBin f ga gb δ = (ga δ).bind (kBin1 f gb) := id rfl
theorem e_bin1 : kBin1 f gb (d, fr) δ = (gb δ).bind (kBin2 f (d, fr)) := id rfl
theorem e_bin2 : kBin2 f (d, fr) (e, fr') δ = fin (f d e) δ := id rfl
def kCh4 (f' : DOp) (y : PyData × Bool) (z : PyData × Bool) (δ : Sl) : EV := fin (f' y.1 z.1) δ
def kCh3 (f' : DOp) (gc : Sl → EV) (y : PyData × Bool) (δ : Sl) : Option (PyData × Bool) → EV
  | some (.bool true, _) => (gc δ).bind (kCh4 f' y)
  | some (.bool false, _) => .ok (.bool false, false) δ
  | _ => .stk
def kCh2 (f f' : DOp) (gc : Sl → EV) (x : PyData × Bool) (y : PyData × Bool) (δ : Sl) : EV := kCh3 f' gc y δ (f x.1 y.1)
def kCh1 (f f' : DOp) (gb gc : Sl → EV) (x : PyData × Bool) (δ : Sl) : EV := (gb δ).bind (kCh2 f f' gc x)
theorem e_chain : gChain f f' ga gb gc δ = (ga δ).bind (kCh1 f f' gb gc) := by
  unfold gChain
  congr 1 <;> skip
  all_goals
    try
      funext x δ1
      unfold kCh1
      congr 1
      funext y δ2
      unfold kCh2 kCh3
      split <;> rfl
theorem e_chain1 : kCh1 f f' gb gc (d, fr) δ = (gb δ).bind (kCh2 f f' gc (d, fr)) := id rfl
theorem e_chain2 : kCh2 f f' gc (d, fr) (e, fr') δ = kCh3 f' gc (e, fr') δ (f d e) := id rfl
theorem e_chain3 : kCh3 f' gc y δ (some (.bool true, fr)) = (gc δ).bind (kCh4 f' y) := id rfl
theorem e_chain4 : kCh3 f' gc y δ (some (.bool false, fr)) = .ok (.bool false, false) δ := id rfl
theorem e_chain5 : kCh4 f' (d, fr) (e, fr') δ = fin (f' d e) δ := id rfl
def kIf (ga gb : Sl → EV) (t : Bool) (δ : Sl) : EV := if t = true then ga δ else gb δ
theorem e_if : gIf gt ga gb δ = (gt δ).bind (kIf ga gb) := id rfl
theorem e_if1 : kIf ga gb true δ = ga δ := id rfl
theorem e_if2 : kIf ga gb false δ = gb δ := id rfl
def kTv (x : PyData × Bool) (δ : Sl) : R Sl Bool := match x.1 with
  | .bool b => .ok b δ
  | _ => .stk
theorem e_tv : gTv ga δ = (ga δ).bind kTv := id rfl
theorem e_tv1 {k : Bool} : kTv (.bool k, fr) δ = .ok k δ := id rfl
def kNotT (k : Bool) (δ : Sl) : R Sl Bool := .ok (!k) δ
theorem e_notT : gNotT gt δ = (gt δ).bind kNotT := id rfl
theorem e_notT1 {k : Bool} : kNotT k δ = .ok (!k) δ := id rfl
def kAndT (gu : Sl → R Sl Bool) (k : Bool) (δ : Sl) : R Sl Bool := if k = true then gu δ else .ok false δ
theorem e_andT : gAndT gt gu δ = (gt δ).bind (kAndT gu) := id rfl
theorem e_andT1 : kAndT gu true δ = gu δ := id rfl
theorem e_andT2 : kAndT gu false δ = .ok false δ := id rfl
def kOrT (gu : Sl → R Sl Bool) (k : Bool) (δ : Sl) : R Sl Bool := if k = true then .ok true δ else gu δ
theorem e_orT : gOrT gt gu δ = (gt δ).bind (kOrT gu) := id rfl
theorem e_orT1 : kOrT gu true δ = .ok true δ := id rfl
theorem e_orT2 : kOrT gu false δ = gu δ := id rfl
def kAndV (gb : Sl → EV) (x : PyData × Bool) (δ : Sl) : EV := match x.1 with
  | .bool true => gb δ
  | .bool false => .ok (.bool false, false) δ
  | _ => .stk
theorem e_andV : gAndV ga gb δ = (ga δ).bind (kAndV gb) := id rfl
theorem e_andV1 : kAndV gb (.bool true, fr) δ = gb δ := id rfl
theorem e_andV2 : kAndV gb (.bool false, fr) δ = .ok (.bool false, false) δ := id rfl
def kOrV (gb : Sl → EV) (x : PyData × Bool) (δ : Sl) : EV := match x.1 with
  | .bool true => .ok (.bool true, false) δ
  | .bool false => gb δ
  | _ => .stk
theorem e_orV : gOrV ga gb δ = (ga δ).bind (kOrV gb) := id rfl
theorem e_orV1 : kOrV gb (.bool true, fr) δ = .ok (.bool true, false) δ := id rfl
theorem e_orV2 : kOrV gb (.bool false, fr) δ = gb δ := id rfl
def kNotV (x : PyData × Bool) (δ : Sl) : EV := match x.1 with
  | .bool b => .ok (.bool (!b), false) δ
  | _ => .stk
theorem e_notV : gNotV ga δ = (ga δ).bind kNotV := id rfl
theorem e_notV1 {k : Bool} : kNotV (.bool k, fr) δ = .ok (.bool (!k), false) δ := id rfl
theorem e_aNil : gaNil δ = .ok [] δ := id rfl
def kCons2 (x : PyData × Bool) (xs : List PyData) (δ : Sl) : R Sl (List PyData) := .ok (x.1 :: xs) δ
def kCons1 (gr : Sl → R Sl (List PyData)) (x : PyData × Bool) (δ : Sl) : R Sl (List PyData) := (gr δ).bind (kCons2 x)
theorem e_aCons : gaCons ga gr δ = (ga δ).bind (kCons1 gr) := id rfl
theorem e_aCons1 : kCons1 gr x δ = (gr δ).bind (kCons2 x) := id rfl
theorem e_aCons2 : kCons2 (d, fr) xs δ = .ok (d :: xs) δ := id rfl
def kStar2 (ys : List PyData) (xs : List PyData) (δ : Sl) : R Sl (List PyData) := .ok (ys ++ xs) δ
def kStar1 (gr : Sl → R Sl (List PyData)) (x : PyData × Bool) (δ : Sl) : R Sl (List PyData) := match x.1 with
  | .list ys => (gr δ).bind (kStar2 ys)
  | .tuple ys => (gr δ).bind (kStar2 ys)
  | _ => .stk
theorem e_star : gaStar ga gr δ = (ga δ).bind (kStar1 gr) := id rfl
theorem e_star1 : kStar1 gr (.list ys, fr) δ = (gr δ).bind (kStar2 ys) := id rfl
theorem e_star2 : kStar1 gr (.tuple ys, fr) δ = (gr δ).bind (kStar2 ys) := id rfl
theorem e_star3 : kStar2 ys xs δ = .ok (ys ++ xs) δ := id rfl
def kLst (xs : List PyData) (δ : Sl) : EV := if xs.length ≤ LINE then .ok (.list xs, true) δ else .stk
theorem e_lst : DL.gLst gr δ = (gr δ).bind kLst := id rfl
theorem e_lst1 : kLst xs δ = if xs.length ≤ LINE then .ok (.list xs, true) δ else .stk := id rfl
def kTup (xs : List PyData) (δ : Sl) : EV := if xs.length ≤ LINE then .ok (.tuple xs, false) δ else .stk
theorem e_tup : DL.gTup gr δ = (gr δ).bind kTup := id rfl
theorem e_tup1 : kTup xs δ = if xs.length ≤ LINE then .ok (.tuple xs, false) δ else .stk := id rfl
def kCall (f : List PyData → Option (PyData × Bool)) (xs : List PyData) (δ : Sl) : EV := fin (f xs) δ
theorem e_call {f : List PyData → Option (PyData × Bool)} : gCall f gr δ = (gr δ).bind (kCall f) := id rfl
theorem e_call1 {f : List PyData → Option (PyData × Bool)} : kCall f xs δ = fin (f xs) δ := id rfl
def kSlot : Option (Option (Bool × PyData)) → Option PyData
  | some (some (_, d)) => some d
  | _ => none
theorem e_slot : slotD i δ = kSlot δ[i]? := by unfold slotD kSlot; split <;> simp_all
theorem e_slot1 : kSlot (some (some (fr, d))) = some d := id rfl
def kSB3 (δ : Sl) : Option (PyData × Bool) → EV
  | some (e, false) => .ok (e, false) δ
  | _ => .stk
def kSB2 (f : DOp) (y : PyData) (δ : Sl) : Option PyData → EV
  | some d => kSB3 δ (f d y)
  | none => .stk
def kSB1 (f : DOp) (i : Nat) (y : PyData × Bool) (δ : Sl) : EV := kSB2 f y.1 δ (slotD i δ)
def kSB0 (f : DOp) (i : Nat) (gb : Sl → EV) (δ : Sl) : Option PyData → EV
  | some _ => (gb δ).bind (kSB1 f i)
  | none => .stk
theorem e_sb : gSlotBin f i gb δ = kSB0 f i gb δ (slotD i δ) := by
  unfold gSlotBin kSB0
  split
  · rename_i h; rw [h]
  · rename_i d h
    rw [h]
    congr 1 <;> skip
    all_goals
      try
        funext y δ1
        unfold kSB1 kSB2 kSB3
        split
        · rename_i h1; rw [h1]; split <;> simp_all
        · rename_i h1; rw [h1]
theorem e_sb0 : kSB0 f i gb δ (some d) = (gb δ).bind (kSB1 f i) := id rfl
theorem e_sb1 : kSB1 f i (e, fr) δ = kSB2 f e δ (slotD i δ) := id rfl
theorem e_sb2 : kSB2 f e δ (some d) = kSB3 δ (f d e) := id rfl
theorem e_sb3 : kSB3 δ (some (e, false)) = .ok (e, false) δ := id rfl
def kBS2 (f : DOp) (x : PyData) (δ : Sl) : Option PyData → EV
  | some d => kSB3 δ (f x d)
  | none => .stk
def kBS1 (f : DOp) (i : Nat) (x : PyData × Bool) (δ : Sl) : EV := kBS2 f x.1 δ (slotD i δ)
theorem e_bs : gBinSlot f ga i δ = (ga δ).bind (kBS1 f i) := by
  unfold gBinSlot
  congr 1 <;> skip
  all_goals
    try
      funext x δ1
      unfold kBS1 kBS2 kSB3
      split
      · rename_i h; rw [h]; split <;> simp_all
      · rename_i h; rw [h]
theorem e_bs1 : kBS1 f i (e, fr) δ = kBS2 f e δ (slotD i δ) := id rfl
theorem e_bs2 : kBS2 f e δ (some d) = kSB3 δ (f e d) := id rfl
def kLenV (δ : Sl) : Option PyData → EV
  | some d => kSB3 δ (dLen [d])
  | none => .stk
theorem e_lenV : gLenV i δ = kLenV δ (slotD i δ) := by
  unfold gLenV kLenV kSB3
  split
  · rename_i h; rw [h]; split <;> simp_all
  · rename_i h; rw [h]
theorem e_lenV1 : kLenV δ (some d) = kSB3 δ (dLen [d]) := id rfl
def kUn (f : PyData → Option (PyData × Bool)) (x : PyData × Bool) (δ : Sl) : EV := fin (f x.1) δ
theorem e_un {f : PyData → Option (PyData × Bool)} : gUn f ga δ = (ga δ).bind (kUn f) := id rfl
theorem e_un1 {f : PyData → Option (PyData × Bool)} : kUn f (d, fr) δ = fin (f d) δ := id rfl
def kDef3 (js : List Nat) (δ : Sl) : R (List PyData) (PyData × Bool) → EV
  | .ok p outs => .ok (fixF p) (setMany δ js outs)
  | .exc c xs outs => .exc c xs (setMany δ js outs)
  | .stk => .stk
def kDef2 (f : List PyData → R (List PyData) (PyData × Bool)) (js : List Nat) (δ : Sl) : Option (List PyData) → EV
  | some ds => kDef3 js δ (f ds)
  | none => .stk
def kDef1 (f : List PyData → R (List PyData) (PyData × Bool)) (io : List Nat) (its : List It1) (δ : Sl) : EV :=
  if itP 0 its == io && nodupB (itJ its) then kDef2 f (itJ its) δ (itD δ its) else .stk
theorem e_def {f : List PyData → R (List PyData) (PyData × Bool)} {gi : Sl → R Sl (List It1)} : gDef f io gi δ = (gi δ).bind (kDef1 f io) := by
  unfold gDef
  congr 1 <;> skip
  all_goals
    try
      funext its δ1
      unfold kDef1 kDef2 kDef3
      split
      · split
        · rename_i h; rw [h]; dsimp only; split <;> simp_all
        · rename_i h; rw [h]
      · rfl
theorem e_def1 {f : List PyData → R (List PyData) (PyData × Bool)} {its : List It1} : kDef1 f io its δ = if itP 0 its == io && nodupB (itJ its) then kDef2 f (itJ its) δ (itD δ its) else .stk := id rfl
theorem e_def2 {f : List PyData → R (List PyData) (PyData × Bool)} {js : List Nat} : kDef2 f js δ (some xs) = kDef3 js δ (f xs) := id rfl
theorem e_def3 {js : List Nat} : kDef3 js δ (.ok x xs) = .ok (fixF x) (setMany δ js xs) := id rfl
theorem e_fix0 {d : PyData} : fixF (d, false) = (d, false) := by cases d <;> rfl
theorem e_fix2 {xs : List PyData} {b : Bool} : fixF (.tuple xs, b) = (.tuple xs, false) := id rfl
theorem e_fix1 {xs : List PyData} {b : Bool} : fixF (.list xs, b) = (.list xs, b) := id rfl
theorem e_def4 {js : List Nat} : kDef3 js δ (.exc c ys xs) = .exc c ys (setMany δ js xs) := id rfl
def kDef0 (δ : Sl) : R (List PyData) (PyData × Bool) → EV
  | .ok p _ => .ok (fixF p) δ
  | _ => .stk
theorem e_def0 {f : List PyData → R (List PyData) (PyData × Bool)} : gDef0 f δ = kDef0 δ (f []) := by unfold gDef0 kDef0; split <;> simp_all
theorem e_def01 : kDef0 δ (.ok x xs) = .ok (fixF x) δ := id rfl
theorem e_jNil : gjNil δ = .ok [] δ := id rfl
def kJ2 (x : It1) (xs : List It1) (δ : Sl) : R Sl (List It1) := .ok (x :: xs) δ
def kJ1 (gr : Sl → R Sl (List It1)) (x : PyData × Bool) (δ : Sl) : R Sl (List It1) := (gr δ).bind (kJ2 (.inl x.1))
theorem e_jVal {gr : Sl → R Sl (List It1)} : gjVal ga gr δ = (ga δ).bind (kJ1 gr) := id rfl
theorem e_jVal1 {gr : Sl → R Sl (List It1)} : kJ1 gr (d, fr) δ = (gr δ).bind (kJ2 (.inl d)) := id rfl
theorem e_j2 {z : It1} {zs : List It1} : kJ2 z zs δ = .ok (z :: zs) δ := id rfl
def kJio (j : Nat) (gr : Sl → R Sl (List It1)) (δ : Sl) : Option (Option (Bool × PyData)) → R Sl (List It1)
  | some (some (true, _)) => (gr δ).bind (kJ2 (.inr j))
  | _ => .stk
theorem e_jIo {gr : Sl → R Sl (List It1)} : gjIo j gr δ = kJio j gr δ δ[j]? := by
  unfold gjIo kJio
  split
  · rename_i h; rw [h]; rfl
  · split <;> simp_all
theorem e_jIo1 {gr : Sl → R Sl (List It1)} : kJio j gr δ (some (some (true, d))) = (gr δ).bind (kJ2 (.inr j)) := id rfl
theorem e_itD0 : itD δ [] = some [] := id rfl
theorem e_itD1 {its : List It1} : itD δ (.inl d :: its) = (itD δ its).map (d :: ·) := id rfl
def kItD (δ : Sl) (its : List It1) : Option (Option (Bool × PyData)) → Option (List PyData)
  | some (some (true, d)) => (itD δ its).map (d :: ·)
  | _ => none
theorem e_itD2 {its : List It1} : itD δ (.inr j :: its) = kItD δ its δ[j]? := by
  show (match δ[j]? with | some (some (true, d)) => (itD δ its).map (d :: ·) | _ => none) = _
  unfold kItD
  split <;> simp_all
theorem e_itD3 {its : List It1} : kItD δ its (some (some (true, d))) = (itD δ its).map (d :: ·) := id rfl
theorem e_itJ0 : itJ [] = [] := id rfl
theorem e_itJ1 {its : List It1} : itJ (.inl d :: its) = itJ its := id rfl
theorem e_itJ2 {its : List It1} : itJ (.inr j :: its) = j :: itJ its := id rfl
theorem e_itP0 : itP i [] = [] := id rfl
theorem e_itP1 {its : List It1} : itP i (.inl d :: its) = itP (i + 1) its := id rfl
theorem e_itP2 {its : List It1} : itP i (.inr j :: its) = i :: itP (i + 1) its := id rfl
theorem e_setMany0 : setMany δ [] xs = δ := by cases xs <;> rfl
theorem e_setMany1 {js : List Nat} : setMany δ (j :: js) (d :: xs) = setMany (δ.set j (some (true, d))) js xs := id rfl
theorem e_nodup0 : nodupB [] = true := id rfl
theorem e_nodup1 {js : List Nat} : nodupB (j :: js) = (!js.contains j && nodupB js) := id rfl
theorem e_noPart : gNoPart δ = .ok none δ := id rfl
def kPart (x : PyData × Bool) (δ : Sl) : R Sl (Option Int) := match x.1 with
  | .int i => .ok (some i) δ
  | _ => .stk
theorem e_part : gPart ga δ = (ga δ).bind kPart := id rfl
theorem e_part1 {k : Int} : kPart (.int k, fr) δ = .ok (some k) δ := id rfl
def kSl3 (x : PyData × Bool) (l : Option Int) (h : Option Int) (δ : Sl) : EV := fin (dSlice x.1 l h) δ
def kSl2 (gh : Sl → R Sl (Option Int)) (x : PyData × Bool) (l : Option Int) (δ : Sl) : EV := (gh δ).bind (kSl3 x l)
def kSl1 (gl gh : Sl → R Sl (Option Int)) (x : PyData × Bool) (δ : Sl) : EV := (gl δ).bind (kSl2 gh x)
theorem e_slice {gl gh : Sl → R Sl (Option Int)} : gSlice ga gl gh δ = (ga δ).bind (kSl1 gl gh) := id rfl
theorem e_slice1 {gl gh : Sl → R Sl (Option Int)} : kSl1 gl gh x δ = (gl δ).bind (kSl2 gh x) := id rfl
theorem e_slice2 {gh : Sl → R Sl (Option Int)} {l : Option Int} : kSl2 gh x l δ = (gh δ).bind (kSl3 x l) := id rfl
theorem e_slice3 {l h : Option Int} : kSl3 (d, fr) l h δ = fin (dSlice d l h) δ := id rfl
def kRg3 (x y : PyData) (δ : Sl) : EV := match x, y with
  | .int i, .int j => if rgOk i j then .ok (.list (rgD i j), true) δ else .stk
  | _, _ => .stk
def kRg2 (x : PyData × Bool) (y : PyData × Bool) (δ : Sl) : EV := kRg3 x.1 y.1 δ
def kRg1 (gb : Sl → EV) (x : PyData × Bool) (δ : Sl) : EV := (gb δ).bind (kRg2 x)
theorem e_lstRg : gLstRg ga gb δ = (ga δ).bind (kRg1 gb) := id rfl
theorem e_lstRg1 : kRg1 gb x δ = (gb δ).bind (kRg2 x) := id rfl
theorem e_lstRg2 {k l : Int} : kRg2 (.int k, fr) (.int l, fr') δ = if rgOk k l then .ok (.list (rgD k l), true) δ else .stk := id rfl
def kSeqI2 (δ : Sl) : Option (List PyData) → R Sl (List PyData)
  | some ds => .ok ds δ
  | none => .stk
def kSeqI (x : PyData × Bool) (δ : Sl) : R Sl (List PyData) := kSeqI2 δ (seqOf x.1)
theorem e_iSeq : giSeq ga δ = (ga δ).bind kSeqI := by
  unfold giSeq
  congr 1 <;> skip
  all_goals
    try
      funext x δ1
      unfold kSeqI kSeqI2
      split <;> simp_all
theorem e_iSeq1 : kSeqI (d, fr) δ = kSeqI2 δ (seqOf d) := id rfl
theorem e_iSeq2 : kSeqI2 δ (some xs) = .ok xs δ := id rfl
def kEn2 (δ : Sl) : Option (List PyData) → R Sl (List PyData)
  | some ds => .ok (enumD 0 ds) δ
  | none => .stk
def kEn (x : PyData × Bool) (δ : Sl) : R Sl (List PyData) := kEn2 δ (lstOf x.1)
theorem e_iEn : giEnum ga δ = (ga δ).bind kEn := by
  unfold giEnum
  congr 1 <;> skip
  all_goals
    try
      funext x δ1
      unfold kEn kEn2
      split <;> simp_all
theorem e_iEn1 : kEn (d, fr) δ = kEn2 δ (lstOf d) := id rfl
theorem e_iEn2 : kEn2 δ (some xs) = .ok (enumD 0 xs) δ := id rfl
def kR1 (xs : List PyData) (δ : Sl) : R Sl (List PyData) := match xs with
  | [.int j] => if -1000000 ≤ j ∧ j ≤ 16777216 then .ok (rgN 0 j.toNat) δ else .stk
  | _ => .stk
theorem e_iR1 : giRg1 gr δ = (gr δ).bind kR1 := id rfl
theorem e_iR11 {j : Int} : kR1 [.int j] δ = if -1000000 ≤ j ∧ j ≤ 16777216 then .ok (rgN 0 j.toNat) δ else .stk := id rfl
def kR2 (xs : List PyData) (δ : Sl) : R Sl (List PyData) := match xs with
  | [.int i, .int j] => if rgOk i j then .ok (rgN i (j - i).toNat) δ else .stk
  | _ => .stk
theorem e_iR2 : giRg2 gr δ = (gr δ).bind kR2 := id rfl
theorem e_iR21 {i j : Int} : kR2 [.int i, .int j] δ = if rgOk i j then .ok (rgN i (j - i).toNat) δ else .stk := id rfl
theorem e_yes : gYes δ = .ok true δ := id rfl
def kLc2 (vs : List Nat) (δ1 : Sl) : R Sl (List PyData) → EV
  | .ok acc δ2 => if noneOwn δ2 vs then .ok (.list acc, true) (backD δ1 vs δ2) else .stk
  | _ => .stk
def kLc1 (vs : List Nat) (tgt : PyData → Bool → Sl → Option Sl) (gt : Sl → R Sl Bool) (ge : Sl → EV) (ds : List PyData) (δ1 : Sl) : EV :=
  if noneOwn δ1 vs && decide (ds.length ≤ LINE) then kLc2 vs δ1 (lcD vs tgt gt ge ds [] (wipeD δ1 vs)) else .stk
theorem e_lc {vs : List Nat} {gi : Sl → R Sl (List PyData)} {tgt : PyData → Bool → Sl → Option Sl} : gLc vs gi tgt gt ga δ = (gi δ).bind (kLc1 vs tgt gt ga) := by
  unfold gLc
  congr 1 <;> skip
  all_goals
    try
      funext ds δ1
      unfold kLc1 kLc2
      split
      · split <;> simp_all
      · rfl
theorem e_lc1 {vs : List Nat} {tgt : PyData → Bool → Sl → Option Sl} : kLc1 vs tgt gt ga xs δ = if noneOwn δ vs && decide (xs.length ≤ LINE) then kLc2 vs δ (lcD vs tgt gt ga xs [] (wipeD δ vs)) else .stk := id rfl
theorem e_lc2 {vs : List Nat} : kLc2 vs δ (.ok xs δ1) = if noneOwn δ1 vs then .ok (.list xs, true) (backD δ vs δ1) else .stk := id rfl
theorem e_wipe0 : wipeD δ [] = δ := id rfl
theorem e_wipe1 {vs : List Nat} : wipeD δ (i :: vs) = (wipeD δ vs).set i none := id rfl
theorem e_back0 : backD δ [] δ1 = δ1 := id rfl
def kBack (i : Nat) (δ : Sl) : Option (Option (Bool × PyData)) → Sl
  | some x => δ.set i x
  | none => δ
theorem e_back1 {vs : List Nat} : backD δ (i :: vs) δ1 = kBack i (backD δ vs δ1) δ[i]? := by
  show (match δ[i]? with | some x => (backD δ vs δ1).set i x | none => backD δ vs δ1) = _
  unfold kBack
  split <;> simp_all
theorem e_back2 {x : Option (Bool × PyData)} : kBack i δ (some x) = δ.set i x := id rfl
theorem e_noneOwn0 : noneOwn δ [] = true := id rfl
def kNO : Option (Option (Bool × PyData)) → Bool
  | some (some (true, _)) => false
  | _ => true
theorem e_noneOwn1 {vs : List Nat} : noneOwn δ (i :: vs) = (kNO δ[i]? && noneOwn δ vs) := by
  show ((match δ[i]? with | some (some (true, _)) => false | _ => true) && noneOwn δ vs) = _
  congr 1 <;> skip
  all_goals
    try
      unfold kNO
      split <;> simp_all
theorem e_noneOwn2 : kNO (some none) = true := id rfl
theorem e_noneOwn3 : kNO (some (some (false, d))) = true := id rfl
theorem e_noneOwn4 : kNO (some (some (true, d))) = false := id rfl
theorem e_name : gtName io i d fr δ = setSlot io i (some (fr, d)) δ := id rfl
theorem e_set {z : Option (Bool × PyData)} : setSlot io i z δ = if io.contains i || decide (δ.length ≤ i) then none else some (δ.set i z) := id rfl
theorem e_tNil : gtNil [] δ = some δ := id rfl
def kTC (gs : List PyData → Sl → Option Sl) (xs : List PyData) : Option Sl → Option Sl
  | some δ => gs xs δ
  | none => none
theorem e_tCons {g : PyData → Bool → Sl → Option Sl} {gs : List PyData → Sl → Option Sl} : gtCons g gs (d :: xs) δ = kTC gs xs (g d false δ) := by
  show (g d false δ).bind (fun δ1 => gs xs δ1) = _
  cases g d false δ <;> rfl
theorem e_tCons1 {gs : List PyData → Sl → Option Sl} : kTC gs xs (some δ) = gs xs δ := id rfl
theorem e_tTup {gs : List PyData → Sl → Option Sl} : gtTup gs (.tuple xs) fr δ = gs xs δ := id rfl
variable {g h : Sl → SV} {fl : Fl}
def kSeq (h : Sl → SV) : SV → SV
  | .ok .nx δ => h δ
  | r => r
theorem e_seq : sSeq g h δ = kSeq h (g δ) := by unfold sSeq kSeq; split <;> simp_all
theorem e_seq1 : kSeq h (.ok .nx δ) = h δ := id rfl
theorem e_seq2 : kSeq h (.ok (.rt d fr) δ) = .ok (.rt d fr) δ := id rfl
theorem e_seq3 : kSeq h (.ok .bk δ) = .ok .bk δ := id rfl
theorem e_seq4 : kSeq h (.ok .ct δ) = .ok .ct δ := id rfl
theorem e_seq5 : kSeq h (.exc c xs δ) = .exc c xs δ := id rfl
theorem e_next : sNext δ = .ok .nx δ := id rfl
theorem e_break : sBreak δ = .ok .bk δ := id rfl
theorem e_cont : sCont δ = .ok .ct δ := id rfl
def kExpr (x : PyData × Bool) (δ : Sl) : SV := .ok .nx δ
theorem e_expr : sExpr ga δ = (ga δ).bind kExpr := id rfl
theorem e_expr1 : kExpr x δ = .ok .nx δ := id rfl
def kRet (x : PyData × Bool) (δ : Sl) : SV := .ok (.rt x.1 x.2) δ
theorem e_ret : sRet ga δ = (ga δ).bind kRet := id rfl
theorem e_ret1 : kRet (d, fr) δ = .ok (.rt d fr) δ := id rfl
def kSIf (g h : Sl → SV) (k : Bool) (δ : Sl) : SV := if k = true then g δ else h δ
theorem e_sIf : sIf gt g h δ = (gt δ).bind (kSIf g h) := id rfl
theorem e_sIf1 : kSIf g h true δ = g δ := id rfl
theorem e_sIf2 : kSIf g h false δ = h δ := id rfl
def kAsg2 : Option Sl → SV
  | some δ => .ok .nx δ
  | none => .stk
def kAsg1 (g : PyData → Bool → Sl → Option Sl) (x : PyData × Bool) (δ : Sl) : SV := kAsg2 (g x.1 x.2 δ)
theorem e_asg {g : PyData → Bool → Sl → Option Sl} : sAsg ga g δ = (ga δ).bind (kAsg1 g) := by
  unfold sAsg
  congr 1 <;> skip
  all_goals
    try
      funext x δ1
      unfold kAsg1 kAsg2
      split <;> simp_all
theorem e_asg1 {g : PyData → Bool → Sl → Option Sl} : kAsg1 g (d, fr) δ = kAsg2 (g d fr δ) := id rfl
theorem e_asg2 : kAsg2 (some δ) = .ok .nx δ := id rfl
def kAug3 (io : List Nat) (i : Nat) (δ : Sl) : Option (PyData × Bool) → SV
  | some (e, false) => kAsg2 (setSlot io i (some (false, e)) δ)
  | _ => .stk
def kAug2 (io : List Nat) (i : Nat) (f : DOp) (y : PyData) (δ : Sl) : Option (Option (Bool × PyData)) → SV
  | some (some (false, d)) => kAug3 io i δ (f d y)
  | _ => .stk
def kAug1 (io : List Nat) (i : Nat) (f : DOp) (y : PyData × Bool) (δ : Sl) : SV := kAug2 io i f y.1 δ δ[i]?
def kAug0 (io : List Nat) (i : Nat) (f : DOp) (ga : Sl → EV) (δ : Sl) : Option (Option (Bool × PyData)) → SV
  | some (some (false, _)) => (ga δ).bind (kAug1 io i f)
  | _ => .stk
theorem e_aug : sAug io i f ga δ = kAug0 io i f ga δ δ[i]? := by
  unfold sAug kAug0
  split
  · rename_i d h
    rw [h]
    dsimp only
    congr 1 <;> skip
    all_goals
      try
        funext y δ1
        unfold kAug1 kAug2
        split
        · rename_i d' h'
          rw [h']
          dsimp only
          unfold kAug3 kAsg2
          split
          · split <;> simp_all
          · split <;> simp_all
        · split <;> simp_all
  · split <;> simp_all
theorem e_aug0 : kAug0 io i f ga δ (some (some (false, d))) = (ga δ).bind (kAug1 io i f) := id rfl
theorem e_aug1 : kAug1 io i f (e, fr) δ = kAug2 io i f e δ δ[i]? := id rfl
theorem e_aug2 : kAug2 io i f e δ (some (some (false, d))) = kAug3 io i δ (f d e) := id rfl
theorem e_aug3 : kAug3 io i δ (some (e, false)) = kAsg2 (setSlot io i (some (false, e)) δ) := id rfl
def kPar3 (io : List Nat) (i j : Nat) (x y : PyData × Bool) (δ : Sl) : SV := match setSlot io i (some (x.2, x.1)) δ with
  | some δ2 => kAsg2 (setSlot io j (some (y.2, y.1)) δ2)
  | none => .stk
def kPar2 (io : List Nat) (i j : Nat) (x : PyData × Bool) (y : PyData × Bool) (δ : Sl) : SV := kPar3 io i j x y δ
def kPar1 (io : List Nat) (i j : Nat) (gb : Sl → EV) (x : PyData × Bool) (δ : Sl) : SV := (gb δ).bind (kPar2 io i j x)
theorem e_par : sPar io i j ga gb δ = (ga δ).bind (kPar1 io i j gb) := by
  unfold sPar gPair
  cases h1 : ga δ with
  | exc c xs d => simp [R.bind]
  | stk => simp [R.bind]
  | ok x δ1 =>
    simp only [R.bind, kPar1]
    cases h2 : gb δ1 with
    | exc c xs d => simp [R.bind]
    | stk => simp [R.bind]
    | ok y δ2 =>
      simp only [R.bind, kPar2, kPar3]
      split
      · rename_i q
        rw [q]
        unfold kAsg2
        split <;> simp_all
      · rename_i q
        rw [q]
theorem e_par1 : kPar1 io i j gb x δ = (gb δ).bind (kPar2 io i j x) := id rfl
theorem e_par2 : kPar2 io i j (d, fr) (e, fr') δ = match setSlot io i (some (fr, d)) δ with
  | some δ2 => kAsg2 (setSlot io j (some (fr', e)) δ2)
  | none => .stk := id rfl
def kApp2 (i : Nat) (y : PyData) (δ : Sl) : Option (Option (Bool × PyData)) → SV
  | some (some (true, .list ds)) => if ds.length < LINE then .ok .nx (δ.set i (some (true, .list (ds ++ [y])))) else .stk
  | _ => .stk
def kApp1 (i : Nat) (y : PyData × Bool) (δ : Sl) : SV := kApp2 i y.1 δ δ[i]?
def kApp0 (i : Nat) (ga : Sl → EV) (δ : Sl) : Option (Option (Bool × PyData)) → SV
  | some (some (true, .list _)) => (ga δ).bind (kApp1 i)
  | _ => .stk
theorem e_app : sAppend i ga δ = kApp0 i ga δ δ[i]? := by
  unfold sAppend kApp0
  split
  · rename_i ds h
    rw [h]
    dsimp only
    congr 1 <;> skip
    all_goals
      try
        funext y δ1
        unfold kApp1 kApp2
        split <;> simp_all
  · split <;> simp_all
theorem e_app0 : kApp0 i ga δ (some (some (true, .list xs))) = (ga δ).bind (kApp1 i) := id rfl
theorem e_app1 : kApp1 i (e, fr) δ = kApp2 i e δ δ[i]? := id rfl
theorem e_app2 : kApp2 i e δ (some (some (true, .list xs))) = if xs.length < LINE then .ok .nx (δ.set i (some (true, .list (xs ++ [e])))) else .stk := id rfl
def kSet4 (i : Nat) (x : PyData) (ds : List PyData) (δ : Sl) : Option Nat → SV
  | some j => .ok .nx (δ.set i (some (true, .list (ds.set j x))))
  | none => .stk
def kSet3 (i : Nat) (x : PyData) (y : PyData) (δ : Sl) (o : Option (Option (Bool × PyData))) : SV := match o, y with
  | some (some (true, .list ds)), .int k => kSet4 i x ds δ (L2.ixN ds.length k)
  | _, _ => .stk
def kSet2 (i : Nat) (x : PyData) (y : PyData × Bool) (δ : Sl) : SV := kSet3 i x y.1 δ δ[i]?
def kSet1 (i : Nat) (gb : Sl → EV) (x : PyData) (δ : Sl) : Option (Option (Bool × PyData)) → SV
  | some (some (true, .list _)) => (gb δ).bind (kSet2 i x)
  | _ => .stk
def kSet0 (i : Nat) (gb : Sl → EV) (x : PyData × Bool) (δ : Sl) : SV := kSet1 i gb x.1 δ δ[i]?
theorem e_setIx : sSetIx i ga gb δ = (ga δ).bind (kSet0 i gb) := by
  unfold sSetIx
  congr 1 <;> skip
  all_goals
    try
      funext x δ1
      unfold kSet0 kSet1
      split
      · rename_i ds h
        rw [h]
        dsimp only
        congr 1
        funext y δ2
        unfold kSet2 kSet3
        split
        · rename_i ds' k h1 h2
          rw [h1, h2]
          dsimp only
          unfold kSet4
          split <;> simp_all
        · split <;> simp_all
      · split <;> simp_all
theorem e_setIx0 : kSet0 i gb (d, fr) δ = kSet1 i gb d δ δ[i]? := id rfl
theorem e_setIx1 : kSet1 i gb d δ (some (some (true, .list xs))) = (gb δ).bind (kSet2 i d) := id rfl
theorem e_setIx2 : kSet2 i d (e, fr) δ = kSet3 i d e δ δ[i]? := id rfl
theorem e_setIx3 {k : Int} : kSet3 i d (.int k) δ (some (some (true, .list xs))) = kSet4 i d xs δ (L2.ixN xs.length k) := id rfl
theorem e_setIx4 : kSet4 i d xs δ (some j) = .ok .nx (δ.set i (some (true, .list (xs.set j d)))) := id rfl
def kMt (m : Str → Sl → SV) (v : PyData × Bool) (δ : Sl) : SV := match v.1 with
  | .str x => m x δ
  | _ => .stk
theorem e_match {m : Str → Sl → SV} : sMatch ga m δ = (ga δ).bind (kMt m) := id rfl
theorem e_match1 {m : Str → Sl → SV} {z : Str} : kMt m (.str z, fr) δ = m z δ := id rfl
theorem e_mCase {m : Str → Sl → SV} {z lit : Str} : mCase lit g m z δ = if z = lit then g δ else m z δ := id rfl
theorem e_mAny {z : Str} : mAny g z δ = g δ := id rfl
theorem e_raise : sRaise c δ = .exc c [] δ := id rfl
theorem e_for {gi : Sl → R Sl (List PyData)} {tgt : PyData → Bool → Sl → Option Sl} : sFor gi tgt g δ = (gi δ).bind (forD tgt g) := id rfl
def kBody2 (p : PyData × Bool) : Option (List PyData) → R (List PyData) (PyData × Bool)
  | some outs => .ok p outs
  | none => .stk
def kBody3 (c : Nat) (xs : List PyData) : Option (List PyData) → R (List PyData) (PyData × Bool)
  | some outs => .exc c xs outs
  | none => .stk
def kBody (io : List Nat) : SV → R (List PyData) (PyData × Bool)
  | .ok .nx δ => kBody2 (.none, false) (outsD δ io)
  | .ok (.rt d fr) δ => kBody2 (d, fr) (outsD δ io)
  | .exc c xs δ => kBody3 c xs (outsD δ io)
  | _ => .stk
theorem e_body {N : Nat} : bodyF io N g xs = kBody io (g (startD io 0 xs ++ List.replicate (N - xs.length) none)) := by
  unfold bodyF kBody
  split
  · rename_i δ q; rw [q]; dsimp only; unfold kBody2; split <;> simp_all
  · rename_i d fr δ q; rw [q]; dsimp only; unfold kBody2; split <;> simp_all
  · rename_i c xs δ q; rw [q]; dsimp only; unfold kBody3; split <;> simp_all
  · first | rfl | (split <;> simp_all)
theorem e_body1 : kBody io (.ok .nx δ) = kBody2 (.none, false) (outsD δ io) := id rfl
theorem e_body2 : kBody io (.ok (.rt d fr) δ) = kBody2 (d, fr) (outsD δ io) := id rfl
theorem e_body3 : kBody io (.exc c xs δ) = kBody3 c xs (outsD δ io) := id rfl
theorem e_body4 : kBody2 x (some xs) = .ok x xs := id rfl
theorem e_body5 : kBody3 c ys (some xs) = .exc c ys xs := id rfl
theorem e_outs0 : outsD δ [] = some [] := id rfl
def kOuts (δ : Sl) (r : List Nat) : Option (Option (Bool × PyData)) → Option (List PyData)
  | some (some (true, d)) => (outsD δ r).map (d :: ·)
  | _ => none
theorem e_outs1 {r : List Nat} : outsD δ (i :: r) = kOuts δ r δ[i]? := by
  show (match δ[i]? with | some (some (true, d)) => (outsD δ r).map (d :: ·) | _ => none) = _
  unfold kOuts
  split <;> simp_all
theorem e_outs2 {r : List Nat} : kOuts δ r (some (some (true, d))) = (outsD δ r).map (d :: ·) := id rfl
theorem e_start0 : startD io i [] = [] := id rfl
theorem e_start1 : startD io i (d :: xs) = some (io.contains i, d) :: startD io (i + 1) xs := id rfl
theorem e_addI {k l : Int} : dAdd (.int k) (.int l) = some (.int (k + l), false) := id rfl
theorem e_addL : dAdd (.list xs) (.list ys) = if xs.length + ys.length ≤ LINE then some (.list (xs ++ ys), true) else none := id rfl
theorem e_addI2 {k l : Int} : dAddI (.int k) (.int l) = some (.int (k + l), false) := id rfl
theorem e_sub {k l : Int} : dSub (.int k) (.int l) = some (.int (k - l), false) := id rfl
theorem e_cmp {p : Int → Int → Bool} {k l : Int} : dCmp p (.int k) (.int l) = some (.bool (p k l), false) := id rfl
theorem e_eqI {k l : Int} : dEq (.int k) (.int l) = some (.bool (k == l), false) := id rfl
theorem e_neI {k l : Int} : dNe (.int k) (.int l) = some (.bool (!(k == l)), false) := id rfl
theorem e_eqB {k l : Bool} : dEq (.bool k) (.bool l) = some (.bool (k == l), false) := id rfl
theorem e_isN0 : dIs .none .none = some (.bool true, false) := id rfl
theorem e_isN1 {k : Int} : dIs (.int k) .none = some (.bool false, false) := id rfl
theorem e_isN2 : dIs (.tuple xs) .none = some (.bool false, false) := id rfl
theorem e_isN3 : dIs (.list xs) .none = some (.bool false, false) := id rfl
theorem e_notN0 : dIsN .none .none = some (.bool false, false) := id rfl
theorem e_notN1 {k : Int} : dIsN (.int k) .none = some (.bool true, false) := id rfl
theorem e_notN2 : dIsN (.tuple xs) .none = some (.bool true, false) := id rfl
theorem e_notN3 : dIsN (.list xs) .none = some (.bool true, false) := id rfl
theorem e_int {k : Int} : dInt [.int k] = some (.int k, false) := id rfl
theorem e_intB {k : Bool} : dInt [.bool k] = some (.int (if k then 1 else 0), false) := id rfl
theorem e_max {k l : Int} : dMax2 [.int k, .int l] = some (.int (if l > k then l else k), false) := id rfl
theorem e_min {k l : Int} : dMin2 [.int k, .int l] = some (.int (if l < k then l else k), false) := id rfl
theorem e_neg {k : Int} : dNeg (.int k) = some (.int (-k), false) := id rfl
theorem e_bits {k : Int} : dBits (.int k) = some (.int (Builtin.Int.intBits k : Nat), false) := id rfl
theorem e_lenL : dLen [.list xs] = some (.int xs.length, false) := id rfl
theorem e_lenT : dLen [.tuple xs] = some (.int xs.length, false) := id rfl
theorem e_lenS : dLen [.dict [(.bool true, .list xs)]] = some (.int xs.length, false) := id rfl
theorem e_ixL {k : Int} : dIx (.list xs) (.int k) = (L2.atI xs k).map (·, false) := id rfl
theorem e_ixT {k : Int} : dIx (.tuple xs) (.int k) = (L2.atI xs k).map (·, false) := id rfl
theorem e_ixS {k : Int} : dIx (.dict [(.bool true, .list xs)]) (.int k) = (L2.atI xs k).map (·, false) := id rfl
theorem e_at0 : L2.atI (d :: xs) 0 = some d := by simp [L2.atI, L2.ixN]
theorem e_at1 {z : PyData} : L2.atI (d :: z :: xs) 1 = some z := by
  have : (1 : Int) < (xs.length : Int) + 1 + 1 := by omega
  simp [L2.atI, L2.ixN, this]
theorem e_at2 {z u : PyData} : L2.atI (d :: z :: u :: xs) 2 = some u := by
  have : (2 : Int) < (xs.length : Int) + 1 + 1 + 1 := by omega
  simp [L2.atI, L2.ixN, this]
theorem e_map {α β : Type} {z : α} {m : α → β} : (some z).map m = some (m z) := id rfl
theorem e_lstOf : lstOf (.list xs) = some xs := id rfl
theorem e_lstOfS : lstOf (.dict [(.bool true, .list xs)]) = some xs := id rfl
theorem e_seqOf : seqOf (.list xs) = some xs := id rfl
theorem e_seqOfT : seqOf (.tuple xs) = some xs := id rfl
theorem e_seqOfS : seqOf (.dict [(.bool true, .list xs)]) = some xs := id rfl
theorem e_isiIB {k : Int} : dIsi [.int k, .dict [(.bool false, .int (-2))]] = some (.bool false, false) := id rfl
theorem e_isiII {k : Int} : dIsi [.int k, .dict [(.bool false, .int (-1))]] = some (.bool true, false) := id rfl
theorem e_isiTT : dIsi [.tuple xs, .dict [(.bool false, .int (-4))]] = some (.bool true, false) := id rfl
theorem e_isiLL : dIsi [.list xs, .dict [(.bool false, .int (-5))]] = some (.bool true, false) := id rfl
end
end DL
namespace DL
open PySem PySem.Spec
open PyProof.Rows hiding St
structure Sm (k j : Nat) (d : PyData) : Prop where
  s : d.showable = true
  n : d.hasDict = false
  c : d.canLay0 = true
  p : d.depth ≤ j
  l : d.shown.length ≤ k
theorem Sm.mono {k k' j j' : Nat} {d : PyData} (h : Sm k j d) (hk : k ≤ k') (hj : j ≤ j') : Sm k' j' d := ⟨h.s, h.n, h.c, Nat.le_trans h.p hj, Nat.le_trans h.l hk⟩
theorem Sm.none : Sm 4 0 .none := ⟨rfl, rfl, rfl, Nat.le_refl _, by rw [PyData.shown_none]; decide⟩
theorem Sm.int {i : Int} (h : i.natAbs < 10 ^ 12) : Sm 13 0 (.int i) := by
  refine ⟨?_, rfl, rfl, Nat.le_refl _, PyData.shown_int_le h⟩
  have a : i.natAbs.log2 < 1920 := by
    by_cases z : i.natAbs = 0
    · rw [z]; decide
    · refine (Nat.log2_lt z).mpr (Nat.lt_of_lt_of_le h ?_)
      exact Nat.le_trans (by decide : 10 ^ 12 ≤ 2 ^ 40) (Nat.pow_le_pow_right (by omega) (by omega))
  simp [PyData.showable, a]
theorem Sm.all {k j : Nat} : ∀ {xs : List PyData}, (∀ x ∈ xs, Sm k j x) → PyData.showableAll xs = true ∧ PyData.hasDictAll xs = false ∧ PyData.canLayAll0 xs = true ∧ PyData.depthAll xs ≤ j ∧ ((PyData.shownAll xs).map (·.length)).sum ≤ xs.length * k ∧ (PyData.shownAll xs).length = xs.length
  | [], _ => ⟨rfl, rfl, rfl, Nat.zero_le _, by simp [PyData.shownAll], rfl⟩
  | x :: r, h => by
    obtain ⟨a1, a2, a3, a4, a5, a6⟩ := Sm.all (xs := r) fun y hy => h y (List.mem_cons_of_mem _ hy)
    have b := h x (List.mem_cons_self ..)
    refine ⟨?_, ?_, ?_, ?_, ?_, ?_⟩
    · simp only [PyData.showableAll, b.s, a1, Bool.and_self]
    · simp only [PyData.hasDictAll, b.n, a2, Bool.or_self]
    · simp only [PyData.canLayAll0, b.c, a3, Bool.and_self]
    · simp only [PyData.depthAll]
      exact Nat.max_le.mpr ⟨b.p, a4⟩
    · have := b.l
      simp only [PyData.shownAll, List.map_cons, List.sum_cons, List.length_cons, Nat.add_mul, Nat.one_mul]
      omega
    · simp only [PyData.shownAll, List.length_cons, a6]
theorem Sm.list {k j : Nat} {xs : List PyData} (h : ∀ x ∈ xs, Sm k j x) : Sm (xs.length * k + 2 * xs.length + 3) (j + 1) (.list xs) := by
  obtain ⟨a1, a2, a3, a4, a5, a6⟩ := Sm.all h
  refine ⟨by simpa [PyData.showable] using a1, by simpa [PyData.hasDict] using a2, by simpa [PyData.canLay0] using a3, by simp only [PyData.depth]; omega, ?_⟩
  have := listText_len_le (PyData.shownAll xs)
  simp only [PyData.shown]
  omega
theorem Sm.tuple {k j : Nat} {xs : List PyData} (h : ∀ x ∈ xs, Sm k j x) : Sm (xs.length * k + 2 * xs.length + 3) (j + 1) (.tuple xs) := by
  obtain ⟨a1, a2, a3, a4, a5, a6⟩ := Sm.all h
  refine ⟨by simpa [PyData.showable] using a1, by simpa [PyData.hasDict] using a2, by simpa [PyData.canLay0] using a3, by simp only [PyData.depth]; omega, ?_⟩
  have := tupleText_len_le (PyData.shownAll xs)
  simp only [PyData.shown]
  omega
theorem e_eqAS {k l : Str} : dEqA (.str k) (.str l) = some (.bool (decide (k = l)), false) := id rfl
theorem e_neAS {k l : Str} : dNeA (.str k) (.str l) = some (.bool (!decide (k = l)), false) := id rfl
theorem e_eqAI {k l : Int} : dEqA (.int k) (.int l) = some (.bool (k == l), false) := id rfl
theorem e_neAI {k l : Int} : dNeA (.int k) (.int l) = some (.bool (!(k == l)), false) := id rfl
theorem e_eqAL {xs : List PyData} {y : PyData} : dEqA (.list xs) y = dEq (.list xs) y := id rfl
theorem eqv_int {i j : Int} : PyData.eqv (.int i) (.int j) = (i == j) := by simp [PyData.eqv]
theorem eqv_tuple {xs ys : List PyData} : PyData.eqv (.tuple xs) (.tuple ys) = PyData.eqvAll xs ys := by simp [PyData.eqv]
theorem eqv_list {xs ys : List PyData} : PyData.eqv (.list xs) (.list ys) = PyData.eqvAll xs ys := by simp [PyData.eqv]
theorem eqvAll_nil : PyData.eqvAll [] [] = true := by simp [PyData.eqvAll]
theorem eqvAll_cons {x y : PyData} {xs ys : List PyData} : PyData.eqvAll (x :: xs) (y :: ys) = (PyData.eqv x y && PyData.eqvAll xs ys) := by simp [PyData.eqvAll]
mutual
/-- data that is equal to itself (all that is here) -/
theorem eqv_refl : ∀ (d : PyData), d.canLay0 = true → PyData.eqv d d = true
  | .none, _ => by simp [PyData.eqv]
  | .bool _, _ => by simp [PyData.eqv]
  | .int _, _ => by simp [PyData.eqv]
  | .str _, _ => by simp [PyData.eqv]
  | .list xs, h => by rw [eqv_list]; exact eqvAll_refl xs (by simpa [PyData.canLay0] using h)
  | .tuple xs, h => by rw [eqv_tuple]; exact eqvAll_refl xs (by simpa [PyData.canLay0] using h)
  | .dict _, h => by simp [PyData.canLay0] at h
theorem eqvAll_refl : ∀ (xs : List PyData), PyData.canLayAll0 xs = true → PyData.eqvAll xs xs = true
  | [], _ => eqvAll_nil
  | x :: r, h => by
    simp only [PyData.canLayAll0, Bool.and_eq_true] at h
    rw [eqvAll_cons, eqv_refl x h.1, eqvAll_refl r h.2]
    rfl
end
theorem Sm.shaped {k j : Nat} {d : PyData} (h : Sm k j d) (hj : j ≤ 64) : SeqAt.shaped d = true := by
  unfold SeqAt.shaped
  rw [h.c, decide_eq_true (Nat.le_trans h.p hj)]
  rfl
theorem dNe_self {d : PyData} (h : SeqAt.shaped d = true) : dNe d d = some (.bool false, false) := by
  unfold dNe
  rw [h, eqv_refl d (SeqAt.canLay_of_shaped h)]
  rfl
end DL
namespace DL
open PySem PySem.Spec
open PyProof.Rows hiding St
section
variable {js : List Nat} {ks : List Int} {c : PyData} {xs : List PyData} {i : Int} {b : Bool} {z : Str}
theorem e_isE1 : dIsiE js ks [.int i, c] = dIsi [.int i, c] := id rfl
theorem e_isE2 : dIsiE js ks [.tuple xs, c] = dIsi [.tuple xs, c] := id rfl
theorem e_isE3 : dIsiE js ks [.list xs, c] = dIsi [.list xs, c] := id rfl
theorem e_isE4 : dIsiE js ks [.bool b, c] = dIsi [.bool b, c] := id rfl
theorem e_isE5 : dIsiE js ks [.none, c] = dIsi [.none, c] := id rfl
theorem e_isE6 : dIsiE js ks [.str z, c] = dIsi [.str z, c] := id rfl
variable {io : List Nat} {m n k : Nat} {g : Sl → SV} {δ δ1 : Sl} {fl : Fl}
def kTry (io : List Nat) (m n : Nat) (js : List Nat) : SV → SV
  | .exc c xs δ1 => if c ∈ js then tryEnd io m n c xs δ1 else .stk
  | r => r
theorem e_try : sTry io m n js g δ = kTry io m n js (g δ) := by unfold sTry kTry; split <;> simp_all
theorem e_try1 : kTry io m n js (.ok fl δ) = .ok fl δ := id rfl
theorem e_try2 : kTry io m n js (.exc k xs δ1) = if k ∈ js then tryEnd io m n k xs δ1 else .stk := id rfl
end
end DL
namespace DL
open PySem PySem.Spec
open PyProof.Rows hiding St
variable {δ : Sl} {gr : Sl → R Sl (List PyData)} {gk ga : Sl → EV} {zs : List Str} {xs : List PyData} {fr : Bool} {y : PyData}
def kDix2 (zs : List Str) (xs : List PyData) (p : PyData × Bool) (δ : Sl) : EV := fin (dLook zs xs p.1) δ
def kDix1 (zs : List Str) (gk : Sl → EV) (xs : List PyData) (δ : Sl) : EV := (gk δ).bind (kDix2 zs xs)
theorem e_dix : gDictIx zs gr gk δ = (gr δ).bind (kDix1 zs gk) := id rfl
theorem e_dix1 : kDix1 zs gk xs δ = (gk δ).bind (kDix2 zs xs) := id rfl
theorem e_dix2 : kDix2 zs xs (y, fr) δ = fin (dLook zs xs y) δ := id rfl
theorem e_look {z k : Str} {x : PyData} : dLook (z :: zs) (x :: xs) (.str k) = if k = z then some (x, false) else dLook zs xs (.str k) := id rfl
def kRev (p : PyData × Bool) (δ : Sl) : EV := match p.1 with
  | .list xs => .ok (.list xs.reverse, true) δ
  | _ => .stk
theorem e_rev : gRev ga δ = (ga δ).bind kRev := id rfl
theorem e_rev1 : kRev (.list xs, fr) δ = .ok (.list xs.reverse, true) δ := id rfl
def kLr1 (p : PyData × Bool) (δ : Sl) : EV := match p.1 with
  | .int j => if rgOk 0 j then .ok (.list (rgD 0 j), true) δ else .stk
  | _ => .stk
theorem e_lr1 : gLstRg1 ga δ = (ga δ).bind kLr1 := id rfl
theorem e_lr11 {j : Int} : kLr1 (.int j, fr) δ = if rgOk 0 j then .ok (.list (rgD 0 j), true) δ else .stk := id rfl
def kExt2 (i : Nat) (y : PyData) (δ : Sl) : Option (Option (Bool × PyData)) → SV
  | some (some (true, .list ds)) => match y with
    | .list es => if ds.length + es.length ≤ LINE then .ok .nx (δ.set i (some (true, .list (ds ++ es)))) else .stk
    | _ => .stk
  | _ => .stk
def kExt1 (i : Nat) (y : PyData × Bool) (δ : Sl) : SV := kExt2 i y.1 δ δ[i]?
def kExt0 (i : Nat) (ga : Sl → EV) (δ : Sl) : Option (Option (Bool × PyData)) → SV
  | some (some (true, .list _)) => (ga δ).bind (kExt1 i)
  | _ => .stk
theorem e_ext {i : Nat} : sExtend i ga δ = kExt0 i ga δ δ[i]? := by
  unfold sExtend kExt0
  split
  · rename_i h
    rw [h]
    dsimp only
    congr 1
    funext x δ1
    unfold kExt1 kExt2
    split
    · rename_i h1 h2
      rw [h1, h2]
    · rename_i h1
      split
      · rename_i ds h2
        split
        · rename_i es h3
          exact absurd h3 (h1 ds es h2)
        · rfl
      · rfl
  · rename_i h
    split
    · rename_i ds h2
      exact absurd h2 (h ds)
    · rfl
theorem e_ext0 {i : Nat} : kExt0 i ga δ (some (some (true, .list xs))) = (ga δ).bind (kExt1 i) := id rfl
theorem e_ext1 {i : Nat} : kExt1 i (y, fr) δ = kExt2 i y δ δ[i]? := id rfl
theorem e_ext2 {i : Nat} {es : List PyData} : kExt2 i (.list es) δ (some (some (true, .list xs))) = if xs.length + es.length ≤ LINE then .ok .nx (δ.set i (some (true, .list (xs ++ es)))) else .stk := id rfl
theorem e_tUnl {gs : List PyData → Sl → Option Sl} : gtUnl gs (.list xs) fr δ = gs xs δ := id rfl
end DL
namespace DL
end DL
namespace DL
open PySem PySem.Spec L2
open PyProof.Rows hiding St
end DL
namespace DL
open PySem PySem.Spec L2
open PyProof.Rows hiding St
/-- the handle of the object with this number -/
def hD (k : Nat) : D := .dict [(.int (k : Int), .none)]
end DL
namespace DL
open PySem PySem.Spec L2
open PyProof.Rows hiding St
end DL
namespace DL
open PySem PySem.Spec L2
open PyProof.Rows hiding St
end DL
namespace DL
open PySem PySem.Spec L2
open PyProof.Rows hiding St
end DL
namespace DL
open PySem PySem.Spec L2
open PyProof.Rows hiding St
end DL
namespace DL
open PySem PySem.Spec L2
open PyProof.Rows hiding St
end DL
namespace SM
open PySem PySem.Spec L2 DL
open PyProof.Rows hiding St
def z_ : Str := ⟨#[]⟩
def z_h7215ee9c : Str := ⟨#[32]⟩
def z_h336d5ebc : Str := ⟨#[45]⟩
def z_LR : Str := ⟨#[76, 82]⟩
def z_R : Str := ⟨#[82]⟩
def z_greater : Str := ⟨#[103, 114, 101, 97, 116, 101, 114]⟩
def z_inorder : Str := ⟨#[105, 110, 111, 114, 100, 101, 114]⟩
def z_lesser : Str := ⟨#[108, 101, 115, 115, 101, 114]⟩
def z_levels : Str := ⟨#[108, 101, 118, 101, 108, 115]⟩
def z_postorder : Str := ⟨#[112, 111, 115, 116, 111, 114, 100, 101, 114]⟩
def z_powers : Str := ⟨#[112, 111, 119, 101, 114, 115]⟩
def z_preorder : Str := ⟨#[112, 114, 101, 111, 114, 100, 101, 114]⟩
def b__law_bag : Sl → SV := (sRet (gLst (gaCons (gCall dMax2 (gaCons (gC (.int 0)) (gaCons (gBin dSub (gVar 0) (gBin dPow (gC (.int 10)) (gC (.int 18)))) gaNil))) (gaCons (gVar 0) (gaCons (gC (.int 0)) gaNil)))))
def m__law_bag : List D → R (List D) (D × Bool) := bodyF [] 1 b__law_bag
def b__law_begin : Sl → SV := (sRet (gIf (gTv (gBin dEqA (gVar 0) (gC (.str z_h336d5ebc)))) (gC (.str z_)) (gVar 0)))
def m__law_begin : List D → R (List D) (D × Bool) := bodyF [] 1 b__law_begin
def b__law_pick : Sl → SV := (sSeq (sSetIx 0 (gBin dAdd (gSlotBin dIx 0 (gC (.int 2))) (gC (.int 1))) (gC (.int 2)))
  (sSeq (sIf (gTv (gBin dGt (gSlotBin dIx 0 (gC (.int 0))) (gC (.int 0)))) (sSeq (sAsg (gBin dMod (gCall dInt (gaCons (gSlotBin dIx 0 (gC (.int 0))) gaNil)) (gVar 1)) (gtName [0] 2))
  (sSeq (sSetIx 0 (gBin dDiv (gCall dInt (gaCons (gSlotBin dIx 0 (gC (.int 0))) gaNil)) (gVar 1)) (gC (.int 0)))
  (sRet (gMove [0] 2)))) sNext)
  (sSeq (sPar [0] 3 4 (gCall dInt (gaCons (gSlotBin dIx 0 (gC (.int 1))) gaNil)) (gCall dInt (gaCons (gSlotBin dIx 0 (gC (.int 2))) gaNil)))
  (sSeq (sAsg (gBin dMod (gCall dInt (gaCons (gBin dAdd (gBin dAdd (gBin dMul (gBin dMod (gVar 3) (gC (.int 2147483629))) (gC (.int 48271))) (gBin dMul (gVar 4) (gC (.int 69621)))) (gC (.int 12345))) gaNil)) (gC (.int 2147483647))) (gtName [0] 5))
  (sSeq (sAsg (gBin dMod (gCall dInt (gaCons (gBin dAdd (gBin dMul (gVar 5) (gVar 5)) (gBin dMul (gVar 4) (gC (.int 40692)))) gaNil)) (gC (.int 2147483587))) (gtName [0] 6))
  (sSeq (sAsg (gBin dDiv (gCall dInt (gaCons (gBin dAdd (gBin dMul (gVar 5) (gC (.int 2147483587))) (gVar 6)) gaNil)) (gC (.int 32))) (gtName [0] 7))
  (sSeq (sIf (gTv (gBin dGt (gVar 1) (gBin dPow (gC (.int 10)) (gC (.int 15))))) (sAsg (gBin dAdd (gBin dPow (gVar 7) (gC (.int 8))) (gVar 6)) (gtName [0] 7)) sNext)
  (sRet (gBin dMod (gCall dInt (gaCons (gVar 7) gaNil)) (gVar 1))))))))))
def m__law_pick : List D → R (List D) (D × Bool) := bodyF [0] 8 b__law_pick
def b__law_node : Sl → SV := (sSeq (sAsg (gBin dIx (gLst (gaCons (gDef m__law_pick [0] (gjIo 0 (gjVal (gVar 1) gjNil))) (gaCons (gBin dSub (gBin dSub (gVar 1) (gC (.int 1))) (gDef m__law_pick [0] (gjIo 0 (gjVal (gCall dMin2 (gaCons (gC (.int 3)) (gaCons (gVar 1) gaNil))) gjNil)))) gaNil))) (gDef m__law_pick [0] (gjIo 0 (gjVal (gC (.int 2)) gjNil)))) (gtName [0] 2))
  (sRet (gTup (gaCons (gVar 2) (gaCons (gDef m__law_pick [0] (gjIo 0 (gjVal (gBin dShl (gC (.int 1)) (gVar 2)) gjNil))) gaNil)))))
def m__law_node : List D → R (List D) (D × Bool) := bodyF [0] 3 b__law_node
def ce_way_1 : Sl → EV := (gTup (gaCons (gVar 1) (gaCons (gBin dShr (gSlotBin dIx 0 (gC (.int 1))) (gBin dSub (gSlotBin dIx 0 (gC (.int 0))) (gVar 1))) gaNil)))
def b__law_way : Sl → SV := (sRet (gLc [1] (giRg1 (gaCons (gBin dAdd (gSlotBin dIx 0 (gC (.int 0))) (gC (.int 1))) gaNil)) (gtName [] 1) gYes ce_way_1))
def m__law_way : List D → R (List D) (D × Bool) := bodyF [] 2 b__law_way
def b_is_int : Sl → SV := (sRet (gAndV (gCall dIsi (gaCons (gVar 0) (gaCons (gC (.dict [(.bool false, .int (-1))])) gaNil))) (gNotV (gCall dIsi (gaCons (gVar 0) (gaCons (gC (.dict [(.bool false, .int (-2))])) gaNil))))))
def m_is_int : List D → R (List D) (D × Bool) := bodyF [] 1 b_is_int
def b_is_whole : Sl → SV := (sRet (gAndV (gDef m_is_int [] (gjVal (gVar 0) gjNil)) (gChain dLe dLe (gVar 1) (gVar 0) (gVar 2))))
def m_is_whole : List D → R (List D) (D × Bool) := bodyF [] 3 b_is_whole
def b_is_node : Sl → SV := (sSeq (sIf (gOrT (gNotT (gTv (gCall dIsi (gaCons (gVar 1) (gaCons (gC (.dict [(.bool false, .int (-4))])) gaNil))))) (gOrT (gTv (gBin dNeA (gLenV 1) (gC (.int 2)))) (gNotT (gTv (gDef m_is_whole [] (gjVal (gSlotBin dIx 1 (gC (.int 0))) (gjVal (gC (.int 0)) (gjVal (gBin dSub (gVar 0) (gC (.int 1))) gjNil)))))))) (sRet (gC (.bool false))) sNext)
  (sRet (gDef m_is_whole [] (gjVal (gSlotBin dIx 1 (gC (.int 1))) (gjVal (gC (.int 0)) (gjVal (gBin dSub (gBin dShl (gC (.int 1)) (gSlotBin dIx 1 (gC (.int 0)))) (gC (.int 1))) gjNil))))))
def m_is_node : List D → R (List D) (D × Bool) := bodyF [] 2 b_is_node
def ce_node_text_1 : Sl → EV := (gBin dIx (gC (.str z_LR)) (gBin dAnd (gBin dShr (gVar 2) (gBin dSub (gBin dSub (gVar 1) (gC (.int 1))) (gVar 3))) (gC (.int 1))))
def b_node_text : Sl → SV := (sSeq (sAsg (gVar 0) (gtTup (gtCons (gtName [] 1) (gtCons (gtName [] 2) gtNil))))
  (sSeq (sIf (gTv (gBin dEqA (gVar 1) (gC (.int 0)))) (sRet (gC (.str z_h336d5ebc))) sNext)
  (sRet (gJoin (gC (.str z_)) (gLc [3] (giRg1 (gaCons (gVar 1) gaNil)) (gtName [] 3) gYes ce_node_text_1)))))
def m_node_text : List D → R (List D) (D × Bool) := bodyF [] 4 b_node_text
def lb_show_nodes_1 : Sl → SV := (sIf (gNotT (gTv (gDef m_is_node [] (gjVal (gC (.int 100)) (gjVal (gVar 2) gjNil))))) sStk sNext)
def ce_show_nodes_1 : Sl → EV := (gDef m_node_text [] (gjVal (gVar 2) gjNil))
def b_show_nodes : Sl → SV := (sSeq (sIf (gOrT (gNotT (gTv (gCall dIsi (gaCons (gVar 0) (gaCons (gC (.dict [(.bool false, .int (-5))])) gaNil))))) (gTv (gBin dGt (gLenV 0) (gC (.int 400))))) sStk sNext)
  (sSeq (sFor (giEnum (gVar 0)) (gtTup (gtCons (gtName [] 1) (gtCons (gtName [] 2) gtNil))) lb_show_nodes_1)
  (sRet (gJoin (gC (.str z_h7215ee9c)) (gLc [2] (giSeq (gVar 0)) (gtName [] 2) gYes ce_show_nodes_1)))))
def m_show_nodes : List D → R (List D) (D × Bool) := bodyF [] 3 b_show_nodes
def b_require_height : Sl → SV := (sIf (gNotT (gTv (gDef m_is_whole [] (gjVal (gVar 0) (gjVal (gC (.int 1)) (gjVal (gC (.int 100)) gjNil)))))) (sRaise 5) sNext)
def m_require_height : List D → R (List D) (D × Bool) := bodyF [] 1 b_require_height
def b_require_node : Sl → SV := (sIf (gNotT (gTv (gDef m_is_node [] (gjVal (gVar 0) (gjVal (gVar 1) gjNil))))) (sRaise 6) sNext)
def m_require_node : List D → R (List D) (D × Bool) := bodyF [] 2 b_require_node
def b_require_kin : Sl → SV := (sSeq (sExpr (gDef m_require_height [] (gjVal (gVar 0) gjNil)))
  (sExpr (gDef m_require_node [] (gjVal (gVar 0) (gjVal (gVar 1) gjNil)))))
def m_require_kin : List D → R (List D) (D × Bool) := bodyF [] 2 b_require_kin
def b_children : Sl → SV := (sSeq (sExpr (gDef m_require_kin [] (gjVal (gVar 0) (gjVal (gVar 1) gjNil))))
  (sSeq (sAsg (gVar 1) (gtTup (gtCons (gtName [] 2) (gtCons (gtName [] 3) gtNil))))
  (sSeq (sIf (gTv (gBin dEqA (gBin dAdd (gVar 2) (gC (.int 1))) (gVar 0))) (sRet (gC .none)) sNext)
  (sRet (gTup (gaCons (gTup (gaCons (gBin dAdd (gVar 2) (gC (.int 1))) (gaCons (gBin dMul (gC (.int 2)) (gVar 3)) gaNil))) (gaCons (gTup (gaCons (gBin dAdd (gVar 2) (gC (.int 1))) (gaCons (gBin dAdd (gBin dMul (gC (.int 2)) (gVar 3)) (gC (.int 1))) gaNil))) gaNil)))))))
def m_children : List D → R (List D) (D × Bool) := bodyF [] 4 b_children
def b_parent_of : Sl → SV := (sRet (gTup (gaCons (gBin dSub (gSlotBin dIx 0 (gC (.int 0))) (gC (.int 1))) (gaCons (gBin dShr (gSlotBin dIx 0 (gC (.int 1))) (gC (.int 1))) gaNil))))
def m_parent_of : List D → R (List D) (D × Bool) := bodyF [] 1 b_parent_of
def b_parent : Sl → SV := (sSeq (sExpr (gDef m_require_kin [] (gjVal (gVar 0) (gjVal (gVar 1) gjNil))))
  (sRet (gIf (gTv (gBin dGt (gSlotBin dIx 1 (gC (.int 0))) (gC (.int 0)))) (gDef m_parent_of [] (gjVal (gVar 1) gjNil)) (gC .none))))
def m_parent : List D → R (List D) (D × Bool) := bodyF [] 2 b_parent
def b_show_node : Sl → SV := (sSeq (sExpr (gDef m_require_node [] (gjVal (gC (.int 100)) (gjVal (gVar 0) gjNil))))
  (sRet (gDef m_node_text [] (gjVal (gVar 0) gjNil))))
def m_show_node : List D → R (List D) (D × Bool) := bodyF [] 1 b_show_node
def b_require_kind : Sl → SV := (sIf (gOrT (gNotT (gTv (gCall dIsi (gaCons (gVar 0) (gaCons (gC (.dict [(.bool false, .int (-3))])) gaNil))))) (gTv (gBin dNotIn (gVar 0) (gC (.tuple (List.map PyData.str [z_levels, z_inorder, z_preorder, z_postorder, z_lesser, z_greater, z_powers])))))) (sRaise 4) sNext)
def m_require_kind : List D → R (List D) (D × Bool) := bodyF [] 1 b_require_kind
def b_require_tree : Sl → SV := (sSeq (sExpr (gDef m_require_kind [] (gjVal (gVar 0) gjNil)))
  (sExpr (gDef m_require_height [] (gjVal (gVar 1) gjNil))))
def m_require_tree : List D → R (List D) (D × Bool) := bodyF [] 2 b_require_tree
def ce_plain_sums_1 : Sl → EV := (gBin dSub (gBin dShl (gC (.int 1)) (gBin dSub (gVar 1) (gVar 4))) (gC (.int 1)))
def ce_plain_sums_2 : Sl → EV := (gBin dSub (gBin dShl (gC (.int 1)) (gBin dSub (gVar 1) (gVar 4))) (gC (.int 1)))
def ce_plain_sums_3 : Sl → EV := (gBin dShl (gC (.int 1)) (gBin dSub (gVar 1) (gVar 4)))
def ce_plain_sums_4 : Sl → EV := (gBin dShl (gC (.int 1)) (gBin dSub (gVar 2) (gVar 4)))
def b_plain_sums : Sl → SV := (sSeq (sAsg (gLstRg (gC (.int 1)) (gBin dAdd (gVar 2) (gC (.int 1)))) (gtName [] 3))
  (sMatch (gVar 0) (mCase z_levels (sRet (gTup (gaCons (gBin dSub (gBin dShl (gC (.int 1)) (gVar 2)) (gC (.int 1))) (gaCons (gLc [4] (giSeq (gVar 3)) (gtName [] 4) gYes ce_plain_sums_4) gaNil))))
  (mCase z_inorder (sRet (gTup (gaCons (gBin dSub (gBin dShl (gC (.int 1)) (gBin dSub (gBin dSub (gVar 1) (gC (.int 1))) (gVar 2))) (gC (.int 1))) (gaCons (gLc [4] (giSeq (gVar 3)) (gtName [] 4) gYes ce_plain_sums_3) gaNil))))
  (mCase z_preorder (sRet (gTup (gaCons (gVar 2) (gaCons (gLc [4] (giSeq (gVar 3)) (gtName [] 4) gYes ce_plain_sums_2) gaNil))))
  (mAny (sRet (gTup (gaCons (gBin dSub (gBin dShl (gC (.int 1)) (gBin dSub (gVar 1) (gVar 2))) (gC (.int 2))) (gaCons (gLc [4] (giSeq (gVar 3)) (gtName [] 4) gYes ce_plain_sums_1) gaNil))))))))))
def m_plain_sums : List D → R (List D) (D × Bool) := bodyF [] 5 b_plain_sums
def b_cut_levels : Sl → SV := (sSeq (sIf (gOrT (gTv (gBin dNotIn (gVar 0) (gC (.tuple (List.map PyData.str [z_lesser, z_greater, z_powers]))))) (gTv (gBin dEqA (gVar 1) (gC (.int 1))))) (sRet (gC .none)) sNext)
  (sSeq (sIf (gTv (gBin dEqA (gVar 0) (gC (.str z_lesser)))) (sRet (gBin dDiv (gVar 1) (gC (.int 2)))) sNext)
  (sSeq (sIf (gTv (gBin dEqA (gVar 0) (gC (.str z_greater)))) (sRet (gBin dDiv (gBin dAdd (gVar 1) (gC (.int 1))) (gC (.int 2)))) sNext)
  (sRet (gBin dSub (gVar 1) (gBin dShl (gC (.int 1)) (gBin dSub (gUn dBits (gBin dSub (gVar 1) (gC (.int 1)))) (gC (.int 1)))))))))
def m_cut_levels : List D → R (List D) (D × Bool) := bodyF [] 2 b_cut_levels
def ce_sums_of_1 : Sl → EV := (gBin dShl (gVar 8) (gBin dSub (gVar 7) (gVar 9)))
def wt_sums_of_1 : Sl → R Sl Bool := (gTv (gBin dGt (gVar 5) (gC (.int 1))))
def wb_sums_of_1 : Sl → SV := (sSeq (sAsg (gDef m_cut_levels [] (gjVal (gVar 0) (gjVal (gVar 5) gjNil))) (gtName [] 7))
  (sIf (gTv (gBin dLt (gVar 6) (gVar 7))) (sAsg (gVar 7) (gtName [] 5)) (sSeq (sAsg (gBin dSub (gBin dShl (gC (.int 1)) (gBin dSub (gVar 5) (gVar 7))) (gC (.int 1))) (gtName [] 8))
  (sSeq (sAug [] 3 dAddI (gBin dSub (gBin dShl (gC (.int 1)) (gVar 7)) (gC (.int 1))))
  (sSeq (sAsg (gLst (gaStar (gVar 4) (gaStar (gLc [9] (giRg2 (gaCons (gC (.int 1)) (gaCons (gBin dAdd (gVar 7) (gC (.int 1))) gaNil))) (gtName [] 9) gYes ce_sums_of_1) gaNil))) (gtName [] 4))
  (sPar [] 5 6 (gBin dSub (gVar 5) (gVar 7)) (gBin dSub (gVar 6) (gVar 7))))))))
def b_sums_of : Sl → SV := (sSeq (sIf (gTv (gBin dNotIn (gVar 0) (gC (.tuple (List.map PyData.str [z_lesser, z_greater, z_powers]))))) (sRet (gDef m_plain_sums [] (gjVal (gVar 0) (gjVal (gVar 1) (gjVal (gVar 2) gjNil))))) sNext)
  (sSeq (sAsg (gTup (gaCons (gC (.int 0)) (gaCons (gLst gaNil) (gaCons (gVar 1) (gaCons (gVar 2) gaNil))))) (gtTup (gtCons (gtName [] 3) (gtCons (gtName [] 4) (gtCons (gtName [] 5) (gtCons (gtName [] 6) gtNil))))))
  (sSeq (sWhile 200 wt_sums_of_1 wb_sums_of_1)
  (sRet (gTup (gaCons (gVar 3) (gaCons (gVar 4) gaNil)))))))
def m_sums_of : List D → R (List D) (D × Bool) := bodyF [] 10 b_sums_of
def lb_spot_of_1 : Sl → SV := (sIf (gTv (gBin dEqA (gBin dAnd (gBin dShr (gVar 4) (gBin dSub (gBin dSub (gVar 3) (gC (.int 1))) (gVar 7))) (gC (.int 1))) (gC (.int 1)))) (sAug [] 5 dAddI (gVar 8)) sNext)
def b_spot_of : Sl → SV := (sSeq (sAsg (gVar 2) (gtTup (gtCons (gtName [] 3) (gtCons (gtName [] 4) gtNil))))
  (sSeq (sAsg (gDef m_sums_of [] (gjVal (gVar 0) (gjVal (gVar 1) (gjVal (gVar 3) gjNil)))) (gtTup (gtCons (gtName [] 5) (gtCons (gtName [] 6) gtNil))))
  (sSeq (sFor (giEnum (gVar 6)) (gtTup (gtCons (gtName [] 7) (gtCons (gtName [] 8) gtNil))) lb_spot_of_1)
  (sRet (gMove [] 5)))))
def m_spot_of : List D → R (List D) (D × Bool) := bodyF [] 9 b_spot_of
def b_place_of : Sl → SV := (sSeq (sExpr (gDef m_require_tree [] (gjVal (gVar 0) (gjVal (gVar 1) gjNil))))
  (sSeq (sExpr (gDef m_require_node [] (gjVal (gVar 1) (gjVal (gVar 2) gjNil))))
  (sRet (gDef m_spot_of [] (gjVal (gVar 0) (gjVal (gVar 1) (gjVal (gVar 2) gjNil)))))))
def m_place_of : List D → R (List D) (D × Bool) := bodyF [] 3 b_place_of
def b__law_kinds : Sl → SV := (sRet (gLst (gaCons (gC (.str z_levels)) (gaCons (gC (.str z_inorder)) (gaCons (gC (.str z_preorder)) (gaCons (gC (.str z_postorder)) (gaCons (gC (.str z_lesser)) (gaCons (gC (.str z_greater)) (gaCons (gC (.str z_powers)) gaNil)))))))))
def m__law_kinds : List D → R (List D) (D × Bool) := bodyF [] 0 b__law_kinds
def b_require_place : Sl → SV := (sIf (gNotT (gTv (gDef m_is_whole [] (gjVal (gVar 1) (gjVal (gC (.int 0)) (gjVal (gBin dSub (gBin dShl (gC (.int 1)) (gVar 0)) (gC (.int 2))) gjNil)))))) (sRaise 8) sNext)
def m_require_place : List D → R (List D) (D × Bool) := bodyF [] 2 b_require_place
def lb_node_there_1 : Sl → SV := (sSeq (sAug [] 7 dShl (gC (.int 1)))
  (sIf (gTv (gBin dGe (gVar 6) (gVar 8))) (sPar [] 6 7 (gBin dSub (gVar 6) (gVar 8)) (gBin dAdd (gVar 7) (gC (.int 1)))) sNext))
def lb_node_there_2 : Sl → SV := (sSeq (sAsg (gDef m_sums_of [] (gjVal (gVar 0) (gjVal (gVar 1) (gjVal (gVar 3) gjNil)))) (gtTup (gtCons (gtName [] 4) (gtCons (gtName [] 5) gtNil))))
  (sSeq (sPar [] 6 7 (gBin dSub (gVar 2) (gVar 4)) (gC (.int 0)))
  (sSeq (sFor (giSeq (gVar 5)) (gtName [] 8) lb_node_there_1)
  (sIf (gTv (gBin dEqA (gVar 6) (gC (.int 0)))) (sRet (gTup (gaCons (gVar 3) (gaCons (gVar 7) gaNil)))) sNext))))
def b_node_there : Sl → SV := (sSeq (sFor (giRg1 (gaCons (gVar 1) gaNil)) (gtName [] 3) lb_node_there_2)
  (sRet (gC .none)))
def m_node_there : List D → R (List D) (D × Bool) := bodyF [] 9 b_node_there
def b_node_at : Sl → SV := (sSeq (sExpr (gDef m_require_tree [] (gjVal (gVar 0) (gjVal (gVar 1) gjNil))))
  (sSeq (sExpr (gDef m_require_place [] (gjVal (gVar 1) (gjVal (gVar 2) gjNil))))
  (sRet (gDef m_node_there [] (gjVal (gVar 0) (gjVal (gVar 1) (gjVal (gVar 2) gjNil)))))))
def m_node_at : List D → R (List D) (D × Bool) := bodyF [] 3 b_node_at
def b_require_both : Sl → SV := (sSeq (sExpr (gDef m_require_kin [] (gjVal (gVar 0) (gjVal (gVar 1) gjNil))))
  (sExpr (gDef m_require_node [] (gjVal (gVar 0) (gjVal (gVar 2) gjNil)))))
def m_require_both : List D → R (List D) (D × Bool) := bodyF [] 3 b_require_both
def b_meeting : Sl → SV := (sSeq (sAsg (gCall dMin2 (gaCons (gSlotBin dIx 0 (gC (.int 0))) (gaCons (gSlotBin dIx 1 (gC (.int 0))) gaNil))) (gtName [] 2))
  (sSeq (sPar [] 3 4 (gBin dShr (gSlotBin dIx 0 (gC (.int 1))) (gBin dSub (gSlotBin dIx 0 (gC (.int 0))) (gVar 2))) (gBin dShr (gSlotBin dIx 1 (gC (.int 1))) (gBin dSub (gSlotBin dIx 1 (gC (.int 0))) (gVar 2))))
  (sSeq (sAsg (gUn dBits (gBin dXor (gVar 3) (gVar 4))) (gtName [] 5))
  (sRet (gTup (gaCons (gBin dSub (gVar 2) (gVar 5)) (gaCons (gBin dShr (gVar 3) (gVar 5)) gaNil)))))))
def m_meeting : List D → R (List D) (D × Bool) := bodyF [] 6 b_meeting
def b_meet : Sl → SV := (sSeq (sExpr (gDef m_require_both [] (gjVal (gVar 0) (gjVal (gVar 1) (gjVal (gVar 2) gjNil)))))
  (sRet (gDef m_meeting [] (gjVal (gVar 1) (gjVal (gVar 2) gjNil)))))
def m_meet : List D → R (List D) (D × Bool) := bodyF [] 3 b_meet
def ce_node_in_1 : Sl → EV := (gBin dInS (gVar 2) (gC (.str z_LR)))
def lb_node_in_1 : Sl → SV := (sAsg (gBin dAdd (gBin dMul (gC (.int 2)) (gVar 1)) (gCall dInt (gaCons (gBin dEqA (gVar 2) (gC (.str z_R))) gaNil))) (gtName [] 1))
def b_node_in : Sl → SV := (sSeq (sIf (gTv (gBin dEqA (gVar 0) (gC (.str z_h336d5ebc)))) (sRet (gTup (gaCons (gC (.int 0)) (gaCons (gC (.int 0)) gaNil)))) sNext)
  (sSeq (sIf (gOrT (gTv (gBin dEqA (gVar 0) (gC (.str z_)))) (gOrT (gTv (gBin dGe (gLenV 0) (gC (.int 100)))) (gNotT (gTv (gCall dAll (gaCons (gLc [2] (giStr (gVar 0)) (gtName [] 2) gYes ce_node_in_1) gaNil)))))) (sRet (gC .none)) sNext)
  (sSeq (sAsg (gC (.int 0)) (gtName [] 1))
  (sSeq (sFor (giStr (gVar 0)) (gtName [] 2) lb_node_in_1)
  (sRet (gTup (gaCons (gLenV 0) (gaCons (gVar 1) gaNil))))))))
def m_node_in : List D → R (List D) (D × Bool) := bodyF [] 3 b_node_in
def lb_read_nodes_1 : Sl → SV := (sSeq (sAsg (gIf (gTv (gBin dLt (gVar 2) (gC (.int 400)))) (gDef m_node_in [] (gjVal (gVar 3) gjNil)) (gC .none)) (gtName [] 4))
  (sSeq (sIf (gTv (gBin dIs (gVar 4) (gC .none))) sStk sNext)
  (sAppend 1 (gVar 4))))
def b_read_nodes : Sl → SV := (sSeq (sIf (gNotT (gTv (gCall dIsi (gaCons (gVar 0) (gaCons (gC (.dict [(.bool false, .int (-3))])) gaNil))))) sStk sNext)
  (sSeq (sAsg (gLst gaNil) (gtName [] 1))
  (sSeq (sFor (giEnum (gIf (gTv (gBin dEqA (gVar 0) (gC (.str z_)))) (gLst gaNil) (gSplit (gVar 0) (gC (.str z_h7215ee9c))))) (gtTup (gtCons (gtName [] 2) (gtCons (gtName [] 3) gtNil))) lb_read_nodes_1)
  (sRet (gMove [] 1)))))
def m_read_nodes : List D → R (List D) (D × Bool) := bodyF [] 5 b_read_nodes
def ce_right_1 : Sl → EV := (gDef m_node_at [] (gjVal (gVar 3) (gjVal (gVar 2) (gjVal (gDef m__law_pick [0] (gjIo 0 (gjVal (gBin dSub (gBin dShl (gC (.int 1)) (gVar 2)) (gC (.int 1))) gjNil))) gjNil))))
def ce_right_2 : Sl → EV := (gDef m_show_nodes [] (gjVal (gVar 8) gjNil))
def ce_right_3 : Sl → EV := (gBin dEqA (gVar 9) (gVar 17))
def ce_right_4 : Sl → EV := (gBin dEqA (gVar 8) (gVar 17))
def lb_right_1 : Sl → SV := (sSeq (sIf (gOrT (gTv (gBin dNeA (gDef m_read_nodes [] (gjVal (gVar 9) gjNil)) (gVar 8))) (gTv (gBin dNeA (gDef m_show_nodes [] (gjVal (gDef m_read_nodes [] (gjVal (gVar 9) gjNil)) gjNil)) (gVar 9)))) (sRet (gC (.bool false))) sNext)
  (sIf (gTv (gBin dNeA (gLc [17] (giSeq (gVar 7)) (gtName [0] 17) gYes ce_right_3) (gLc [17] (giSeq (gVar 6)) (gtName [0] 17) gYes ce_right_4))) (sRet (gC (.bool false))) sNext))
def ce_right_5 : Sl → EV := (gBin dAdd (gDef m__law_begin [] (gjVal (gDef m_show_node [] (gjVal (gVar 4) gjNil)) gjNil)) (gVar 18))
def ce_right_6 : Sl → EV := (gDef m_show_node [] (gjVal (gVar 8) gjNil))
def ce_right_7 : Sl → EV := (gSlice (gVar 19) gNoPart (gPart (gLenV 13)))
def ce_right_8 : Sl → EV := (gDef m_place_of [] (gjVal (gVar 3) (gjVal (gVar 2) (gjVal (gVar 20) gjNil))))
def ce_right_9 : Sl → EV := (gDef m_place_of [] (gjVal (gVar 3) (gjVal (gVar 2) (gjVal (gVar 20) gjNil))))
def b__law_right : Sl → SV := (sSeq (sPar [0] 2 3 (gBin dAdd (gC (.int 1)) (gDef m__law_pick [0] (gjIo 0 (gjVal (gVar 1) gjNil)))) (gBin dIx (gDef0 m__law_kinds) (gDef m__law_pick [0] (gjIo 0 (gjVal (gC (.int 7)) gjNil)))))
  (sSeq (sPar [0] 4 5 (gDef m__law_node [0] (gjIo 0 (gjVal (gVar 2) gjNil))) (gDef m__law_node [0] (gjIo 0 (gjVal (gVar 2) gjNil))))
  (sSeq (sAsg (gLst (gaCons (gDef m__law_way [] (gjVal (gVar 4) gjNil)) (gaCons (gDef m__law_way [] (gjVal (gVar 5) gjNil)) (gaCons (gLst (gaCons (gVar 4) (gaCons (gVar 5) gaNil))) (gaCons (gLst (gaCons (gVar 5) (gaCons (gVar 4) gaNil))) (gaCons (gLst gaNil) (gaCons (gLst (gaCons (gVar 4) gaNil)) (gaCons (gRev (gDef m__law_way [] (gjVal (gVar 4) gjNil))) gaNil)))))))) (gtName [0] 6))
  (sSeq (sAppend 6 (gLc [16] (giRg1 (gaCons (gC (.int 9)) gaNil)) (gtName [0] 16) gYes ce_right_1))
  (sSeq (sAsg (gLc [8] (giSeq (gVar 6)) (gtName [0] 8) gYes ce_right_2) (gtName [0] 7))
  (sSeq (sFor (giZip (gVar 6) (gVar 7)) (gtTup (gtCons (gtName [0] 8) (gtCons (gtName [0] 9) gtNil))) lb_right_1)
  (sSeq (sPar [0] 10 11 (gDef m_children [] (gjVal (gVar 2) (gjVal (gVar 4) gjNil))) (gDef m_parent [] (gjVal (gVar 2) (gjVal (gVar 4) gjNil))))
  (sSeq (sAsg (gLc [18] (giStr (gC (.str z_LR))) (gtName [0] 18) gYes ce_right_5) (gtName [0] 12))
  (sSeq (sIf (gAndT (gTv (gBin dIsN (gVar 10) (gC .none))) (gTv (gBin dNeA (gLc [8] (giSeq (gVar 10)) (gtName [0] 8) gYes ce_right_6) (gVar 12)))) (sRet (gC (.bool false))) sNext)
  (sSeq (sIf (gAndT (gTv (gBin dIsN (gVar 11) (gC .none))) (gTv (gBin dNeA (gDef m__law_begin [] (gjVal (gDef m_show_node [] (gjVal (gVar 11) gjNil)) gjNil)) (gSlice (gDef m_show_node [] (gjVal (gVar 4) gjNil)) gNoPart (gPart (gUn dNeg (gC (.int 1)))))))) (sRet (gC (.bool false))) sNext)
  (sSeq (sAsg (gDef m__law_begin [] (gjVal (gDef m_show_node [] (gjVal (gDef m_meet [] (gjVal (gVar 2) (gjVal (gVar 4) (gjVal (gVar 5) gjNil)))) gjNil)) gjNil)) (gtName [0] 13))
  (sSeq (sAsg (gLst (gaCons (gDef m__law_begin [] (gjVal (gDef m_show_node [] (gjVal (gVar 4) gjNil)) gjNil)) (gaCons (gDef m__law_begin [] (gjVal (gDef m_show_node [] (gjVal (gVar 5) gjNil)) gjNil)) gaNil))) (gtName [0] 14))
  (sSeq (sIf (gTv (gBin dNeA (gLc [19] (giSeq (gVar 14)) (gtName [0] 19) gYes ce_right_7) (gBin dMul (gLst (gaCons (gVar 13) gaNil)) (gC (.int 2))))) (sRet (gC (.bool false))) sNext)
  (sSeq (sIf (gAndT (gTv (gBin dGt (gCall dMin2 (gaCons (gCall dLen (gaCons (gSlotBin dIx 14 (gC (.int 0))) gaNil)) (gaCons (gCall dLen (gaCons (gSlotBin dIx 14 (gC (.int 1))) gaNil)) gaNil))) (gLenV 13))) (gTv (gBin dEqA (gBin dIx (gSlotBin dIx 14 (gC (.int 0))) (gLenV 13)) (gBin dIx (gSlotBin dIx 14 (gC (.int 1))) (gLenV 13))))) (sRet (gC (.bool false))) sNext)
  (sSeq (sAsg (gLc [20] (giSeq (gDef m_read_nodes [] (gjVal (gSlotBin dIx 7 (gC (.int 2))) gjNil))) (gtName [0] 20) gYes ce_right_8) (gtName [0] 15))
  (sRet (gBin dEqA (gVar 15) (gLc [20] (giSeq (gTup (gaCons (gVar 4) (gaCons (gVar 5) gaNil)))) (gtName [0] 20) gYes ce_right_9))))))))))))))))))
def m__law_right : List D → R (List D) (D × Bool) := bodyF [0] 21 b__law_right
def lb_law_1 : Sl → SV := (sIf (gNotT (gTv (gDef m__law_right [0] (gjIo 2 (gjVal (gVar 3) gjNil))))) (sRet (gC (.bool false))) sNext)
def lb_law_2 : Sl → SV := (sSeq (sAsg (gDef m__law_bag [] (gjVal (gVar 1) gjNil)) (gtName [] 2))
  (sFor (giSeq (gTup (gaCons (gC (.int 4)) (gaCons (gC (.int 30)) (gaCons (gC (.int 100)) gaNil))))) (gtName [] 3) lb_law_1))
def b_law : Sl → SV := (sSeq (sFor (giSeq (gBin dAdd (gSlice (gVar 0) gNoPart (gPart (gC (.int 6)))) (gLst (gaCons (gC (.int 0)) gaNil)))) (gtName [] 1) lb_law_2)
  (sRet (gC (.bool true))))
def m_law : List D → R (List D) (D × Bool) := bodyF [] 4 b_law
end SM
namespace SM
open PySem PySem.Spec DL
open PyProof.Rows hiding St
def nd (d n : Nat) : D := .tuple [.int d, .int n]
theorem pw (d : Nat) : ((2 ^ d : Nat) : Int) = 2 ^ d := by simp
theorem is_int_int (i : Int) : m_is_int [.int i] = .ok (.bool true, false) [] := rfl
theorem is_whole_int (i a b : Int) : m_is_whole [.int i, .int a, .int b] = .ok (.bool (decide (a ≤ i) && decide (i ≤ b)), false) [] := by
  by_cases h1 : a ≤ i <;> simp [m_is_whole, b_is_whole, is_int_int, e_tUnl, e_ext, e_ext0, e_ext1, e_ext2, e_dix, e_dix1, e_dix2, e_look, e_rev, e_rev1, e_lr1, e_lr11, e_isE1, e_isE2, e_isE3, e_isE4, e_isE5, e_isE6, e_try, e_try1, e_try2, e_eqAS, e_neAS, e_eqAI, e_neAI, e_bind_ok, e_bind_exc, e_bind_stk, e_var, e_var1, e_var2, e_move, e_move1, e_move2, e_C, e_fin1, e_bin, e_bin1, e_bin2, e_chain, e_chain1, e_chain2, e_chain3, e_chain4, e_chain5, e_if, e_if1, e_if2, e_tv, e_tv1, e_notT, e_notT1, e_andT, e_andT1, e_andT2, e_orT, e_orT1, e_orT2, e_andV, e_andV1, e_andV2, e_orV, e_orV1, e_orV2, e_notV, e_notV1, e_aNil, e_aCons, e_aCons1, e_aCons2, e_star, e_star1, e_star2, e_star3, e_lst, e_lst1, e_tup, e_tup1, e_call, e_call1, e_slot, e_slot1, e_sb, e_sb0, e_sb1, e_sb2, e_sb3, e_bs, e_bs1, e_bs2, e_lenV, e_lenV1, e_un, e_un1, e_def, e_def1, e_def2, e_def3, e_fix0, e_fix1, e_fix2, e_def4, e_def0, e_def01, e_jNil, e_jVal, e_jVal1, e_j2, e_jIo, e_jIo1, e_itD0, e_itD1, e_itD2, e_itD3, e_itJ0, e_itJ1, e_itJ2, e_itP0, e_itP1, e_itP2, e_setMany0, e_setMany1, e_nodup0, e_nodup1, e_noPart, e_part, e_part1, e_slice, e_slice1, e_slice2, e_slice3, e_lstRg, e_lstRg1, e_lstRg2, e_iSeq, e_iSeq1, e_iSeq2, e_iEn, e_iEn1, e_iEn2, e_iR1, e_iR11, e_iR2, e_iR21, e_yes, e_lc, e_lc1, e_lc2, e_wipe0, e_wipe1, e_back0, e_back1, e_back2, e_noneOwn0, e_noneOwn1, e_noneOwn2, e_noneOwn3, e_noneOwn4, e_name, e_set, e_tNil, e_tCons, e_tCons1, e_tTup, e_seq, e_seq1, e_seq2, e_seq3, e_seq4, e_seq5, e_next, e_break, e_cont, e_expr, e_expr1, e_ret, e_ret1, e_sIf, e_sIf1, e_sIf2, e_asg, e_asg1, e_asg2, e_aug, e_aug0, e_aug1, e_aug2, e_aug3, e_par, e_par1, e_par2, e_app, e_app0, e_app1, e_app2, e_setIx, e_setIx0, e_setIx1, e_setIx2, e_setIx3, e_setIx4, e_match, e_match1, e_mCase, e_mAny, e_raise, e_for, e_body, e_body1, e_body2, e_body3, e_body4, e_body5, e_outs0, e_outs1, e_outs2, e_start0, e_start1, e_addI, e_addL, e_addI2, e_sub, e_cmp, e_eqI, e_neI, e_eqB, e_isN0, e_isN1, e_isN2, e_isN3, e_notN0, e_notN1, e_notN2, e_notN3, e_int, e_intB, e_max, e_min, e_neg, e_bits, e_lenL, e_lenT, e_lenS, e_ixL, e_ixT, e_ixS, e_at0, e_at1, e_at2, e_map, e_lstOf, e_lstOfS, e_seqOf, e_seqOfT, e_seqOfS, e_isiIB, e_isiII, e_isiTT, e_isiLL, h1]
theorem shl1 (d : Nat) (h : d ≤ 1000) : dShl (.int 1) (.int (d : Int)) = some (.int (2 ^ d), false) := by
  have := dShl_one (j := (d : Int)) (by omega) (by omega)
  simpa using this
theorem rg_ok (a b : Int) (h1 : -1000 ≤ a) (h2 : a ≤ 1000000) (h3 : -1000 ≤ b) (h4 : b ≤ 1000000) : rgOk a b = true := by
  unfold rgOk
  simp only [Bool.and_eq_true, decide_eq_true_eq]
  omega
def wsD (d : Nat) (ws : Nat → Int) : List D := (List.range d).map fun i => .int (ws i)
end SM
namespace SM
open PySem PySem.Spec DL
open PyProof.Rows hiding St
def bt (n k : Nat) : Nat := n / 2 ^ k % 2
def psum (d n : Nat) (ws : Nat → Int) : Nat → Int
  | 0 => 0
  | i + 1 => psum d n ws i + (bt n (d - 1 - i) : Int) * ws i
theorem wsD_len (d : Nat) (ws : Nat → Int) : (wsD d ws).length = d := by simp [wsD]
theorem wsD_get {d : Nat} {ws : Nat → Int} {i : Nat} {x : D} (h : (wsD d ws)[i]? = some x) : i < d ∧ x = .int (ws i) := by
  unfold wsD at h
  rw [List.getElem?_map] at h
  obtain ⟨j, h1, h2⟩ := Option.map_eq_some_iff.mp h
  obtain ⟨h3, h4⟩ := List.getElem?_eq_some_iff.mp h1
  simp only [List.getElem_range] at h4
  subst h4
  simp only [List.length_range] at h3
  exact ⟨h3, h2.symm⟩
def grd (ws : Nat → Int) (L : Int) : Nat → Int × Int
  | 0 => (L, 0)
  | j + 1 => if ws j ≤ (grd ws L j).1 then ((grd ws L j).1 - ws j, 2 * (grd ws L j).2 + 1) else ((grd ws L j).1, 2 * (grd ws L j).2)
theorem grd_b (ws : Nat → Int) (L : Int) : ∀ j, 0 ≤ (grd ws L j).2 ∧ (grd ws L j).2 < 2 ^ j
  | 0 => by simp [grd]
  | j + 1 => by
    have := grd_b ws L j
    have e : (2 : Int) ^ (j + 1) = 2 ^ j * 2 := Int.pow_succ ..
    unfold grd
    split <;> (dsimp only; omega)
theorem grd_nat (ws : Nat → Int) (L : Int) (j : Nat) : (grd ws L j).2.natAbs < 2 ^ j := by
  have := grd_b ws L j
  have e := pw j
  omega
end SM
namespace SM
open PySem PySem.Spec DL
open PyProof.Rows hiding St
theorem p2pos (k : Nat) : 0 < 2 ^ k := Nat.two_pow_pos k
theorem p2s {a b : Nat} (h : a = b + 1) : 2 ^ a = 2 ^ b * 2 := by rw [h, Nat.pow_succ]
theorem div_step (n k : Nat) : n / 2 ^ (k + 1) = n / 2 ^ k / 2 := by rw [Nat.pow_succ, Nat.div_div_eq_div_mul]
theorem bt_01 (n k : Nat) : bt n k = 0 ∨ bt n k = 1 := by unfold bt; omega
theorem bt_dbl (g b k : Nat) (hb : b < 2) : bt (2 * g + b) (k + 1) = bt g k := by
  unfold bt
  rw [Nat.pow_succ, Nat.mul_comm (2 ^ k) 2, ← Nat.div_div_eq_div_mul, show (2 * g + b) / 2 = g by omega]
theorem bt_mod (n m k : Nat) (hk : k < m) : bt (n % 2 ^ m) k = bt n k := by
  unfold bt
  have e : 2 ^ m = 2 ^ k * (2 * 2 ^ (m - k - 1)) := by rw [← Nat.pow_succ', ← Nat.pow_add]; congr 1; omega
  have h := Nat.div_add_mod n (2 ^ m)
  generalize n % 2 ^ m = r at *
  generalize n / 2 ^ m = q at *
  rw [← h, e, Nat.mul_assoc, Nat.mul_add_div (p2pos k), Nat.mul_assoc, Nat.mul_add_mod]
theorem bt_div (n a b : Nat) : bt (n / 2 ^ a) b = bt n (a + b) := by
  unfold bt
  rw [Nat.div_div_eq_div_mul, ← Nat.pow_add]
theorem half_bt (n d j : Nat) (hj : j < d) : n / 2 ^ (d - (j + 1)) = 2 * (n / 2 ^ (d - j)) + bt n (d - 1 - j) := by
  have e1 : n / 2 ^ (d - j) = n / 2 ^ (d - (j + 1)) / 2 := by rw [show d - j = d - (j + 1) + 1 by omega, div_step]
  unfold bt
  rw [e1, show d - 1 - j = d - (j + 1) by omega]
  omega
def sN (d n : Nat) (ws : Nat → Nat) : Nat → Nat
  | 0 => 0
  | i + 1 => sN d n ws i + bt n (d - 1 - i) * ws i
theorem psum_N (d n : Nat) (ws : Nat → Nat) : ∀ i, psum d n (fun i => (ws i : Int)) i = (sN d n ws i : Int)
  | 0 => rfl
  | i + 1 => by
    unfold psum sN
    rw [psum_N d n ws i, Int.natCast_add, Int.natCast_mul]
theorem sN_congr (d n : Nat) {ws ws' : Nat → Nat} : ∀ i, (∀ j, j < i → ws j = ws' j) → sN d n ws i = sN d n ws' i
  | 0, _ => rfl
  | i + 1, h => by
    unfold sN
    rw [sN_congr d n i (fun j hj => h j (by omega)), h i (by omega)]
theorem sN_geo (t m c : Nat) (hm : m < 2 ^ t) : sN t m (fun i => c * 2 ^ (t - 1 - i)) t = c * m := by
  have aux : ∀ j, j ≤ t → sN t m (fun i => c * 2 ^ (t - 1 - i)) j = c * (m / 2 ^ (t - j) * 2 ^ (t - j)) := by
    intro j
    induction j with
    | zero =>
      intro _
      rw [Nat.sub_zero, Nat.div_eq_of_lt hm]
      simp [sN]
    | succ j ih =>
      intro hj
      have e2 : 2 ^ (t - j) = 2 ^ (t - (j + 1)) * 2 := p2s (by omega)
      unfold sN
      rw [ih (by omega), half_bt m t j (by omega), e2, show t - 1 - j = t - (j + 1) by omega]
      generalize m / (2 ^ (t - (j + 1)) * 2) = q
      generalize bt m _ = b
      generalize 2 ^ (t - (j + 1)) = p
      rw [Nat.mul_left_comm b c p, ← Nat.mul_add]
      congr 1
      rw [Nat.add_mul, Nat.mul_comm p 2, ← Nat.mul_assoc, Nat.mul_comm q 2]
  have := aux t (Nat.le_refl _)
  rw [Nat.sub_self, Nat.pow_zero, Nat.div_one, Nat.mul_one] at this
  exact this
theorem sN_split (d n t : Nat) (ht : t ≤ d) (ws : Nat → Nat) : sN d n ws d = sN t (n / 2 ^ (d - t)) ws t + sN (d - t) (n % 2 ^ (d - t)) (fun i => ws (t + i)) (d - t) := by
  have a : ∀ j, j ≤ t → sN d n ws j = sN t (n / 2 ^ (d - t)) ws j := by
    intro j
    induction j with
    | zero => intro _; rfl
    | succ j ih =>
      intro hj
      unfold sN
      rw [ih (by omega), bt_div, show d - t + (t - 1 - j) = d - 1 - j by omega]
  have b : ∀ i, i ≤ d - t → sN d n ws (t + i) = sN t (n / 2 ^ (d - t)) ws t + sN (d - t) (n % 2 ^ (d - t)) (fun i => ws (t + i)) i := by
    intro i
    induction i with
    | zero => intro _; rw [Nat.add_zero, a t (Nat.le_refl _)]; rfl
    | succ i ih =>
      intro hi
      show sN d n ws (t + i) + bt n (d - 1 - (t + i)) * ws (t + i) = _ + (sN (d - t) (n % 2 ^ (d - t)) (fun i => ws (t + i)) i + bt (n % 2 ^ (d - t)) (d - t - 1 - i) * ws (t + i))
      rw [ih (by omega), bt_mod _ _ _ (by omega), show d - 1 - (t + i) = d - t - 1 - i by omega, Nat.add_assoc]
  have := b (d - t) (Nat.le_refl _)
  rwa [show t + (d - t) = d by omega] at this
theorem sN_1 (b : Nat) (hb : b < 2) (ws : Nat → Nat) : sN 1 b ws 1 = b * ws 0 := by
  have : bt b 0 = b := by unfold bt; rw [Nat.pow_zero, Nat.div_one]; omega
  show 0 + bt b 0 * ws 0 = _
  rw [this, Nat.zero_add]
theorem top_bit (d n : Nat) (hd : 1 ≤ d) (hn : n < 2 ^ d) : n / 2 ^ (d - 1) < 2 := by
  rw [Nat.div_lt_iff_lt_mul (p2pos _), ← Nat.pow_succ']
  rwa [show (d - 1).succ = d by omega]
theorem sN_first (d n : Nat) (hd : 1 ≤ d) (hn : n < 2 ^ d) (ws : Nat → Nat) : sN d n ws d = n / 2 ^ (d - 1) * ws 0 + sN (d - 1) (n % 2 ^ (d - 1)) (fun i => ws (1 + i)) (d - 1) := by
  rw [sN_split d n 1 hd ws, sN_1 _ (top_bit d n hd hn)]
theorem psum_dbl (ws : Nat → Int) (g b : Nat) (hb : b < 2) (j : Nat) : ∀ i, i ≤ j → psum (j + 1) (2 * g + b) ws i = psum j g ws i
  | 0, _ => rfl
  | i + 1, h => by
    unfold psum
    rw [psum_dbl ws g b hb j i (by omega), show j + 1 - 1 - i = (j - 1 - i) + 1 by omega, bt_dbl g b _ hb]
theorem grd_id (ws : Nat → Int) (L : Int) : ∀ j, L = (grd ws L j).1 + psum j (grd ws L j).2.toNat ws j
  | 0 => by simp [grd, psum]
  | j + 1 => by
    have ih := grd_id ws L j
    have hb := grd_b ws L j
    unfold grd
    by_cases c : ws j ≤ (grd ws L j).1
    · rw [if_pos c]
      dsimp only
      have e : (2 * (grd ws L j).2 + 1).toNat = 2 * (grd ws L j).2.toNat + 1 := by omega
      rw [e]
      unfold psum
      rw [psum_dbl _ _ _ (by omega) j j (Nat.le_refl _), show j + 1 - 1 - j = 0 by omega]
      have e2 : bt (2 * (grd ws L j).2.toNat + 1) 0 = 1 := by unfold bt; rw [Nat.pow_zero, Nat.div_one]; omega
      rw [e2]
      simp only [Int.natCast_one, Int.one_mul]
      omega
    · rw [if_neg c]
      dsimp only
      have e : (2 * (grd ws L j).2).toNat = 2 * (grd ws L j).2.toNat + 0 := by omega
      rw [e]
      unfold psum
      rw [psum_dbl _ _ _ (by omega) j j (Nat.le_refl _), show j + 1 - 1 - j = 0 by omega]
      have e2 : bt (2 * (grd ws L j).2.toNat + 0) 0 = 0 := by unfold bt; rw [Nat.pow_zero, Nat.div_one]; omega
      rw [e2]
      simp only [Int.natCast_zero, Int.zero_mul]
      omega
/-- the weights fall faster than their sum -/
def Fall (d : Nat) (ws B : Nat → Nat) : Prop := 1 ≤ B d ∧ ∀ i, i < d → B (i + 1) ≤ ws i ∧ ws i + B (i + 1) ≤ B i
theorem sN_tail {d : Nat} {ws B : Nat → Nat} (f : Fall d ws B) (n : Nat) : ∀ k, k ≤ d → sN d n ws (d - k) ≤ sN d n ws d ∧ sN d n ws d < sN d n ws (d - k) + B (d - k)
  | 0, _ => by
    have := f.1
    simp only [Nat.sub_zero]
    omega
  | k + 1, hk => by
    have ih := sN_tail f n k (by omega)
    have hs := f.2 (d - (k + 1)) (by omega)
    rw [show d - (k + 1) + 1 = d - k by omega] at hs
    have e : sN d n ws (d - k) = sN d n ws (d - (k + 1)) + bt n (d - 1 - (d - (k + 1))) * ws (d - (k + 1)) := by
      rw [show d - k = d - (k + 1) + 1 by omega]
      rfl
    rcases bt_01 n (d - 1 - (d - (k + 1))) with b | b <;> rw [b] at e <;> simp only [Nat.zero_mul, Nat.one_mul] at e <;> omega
theorem grd_fall {d : Nat} {ws B : Nat → Nat} (f : Fall d ws B) (n : Nat) (hn : n < 2 ^ d) :
    grd (fun i => (ws i : Int)) ((sN d n ws d : Nat) : Int) d = (0, (n : Int)) := by
  have aux : ∀ j, j ≤ d → grd (fun i => (ws i : Int)) ((sN d n ws d : Nat) : Int) j = (((sN d n ws d : Nat) : Int) - ((sN d n ws j : Nat) : Int), ((n / 2 ^ (d - j) : Nat) : Int)) := by
    intro j
    induction j with
    | zero =>
      intro _
      rw [Nat.sub_zero, Nat.div_eq_of_lt hn]
      simp [grd, sN]
    | succ j ih =>
      intro hj
      unfold grd
      rw [ih (by omega)]
      dsimp only
      have t1 := sN_tail f n (d - j) (by omega)
      have t2 := sN_tail f n (d - (j + 1)) (by omega)
      rw [show d - (d - j) = j by omega] at t1
      rw [show d - (d - (j + 1)) = j + 1 by omega] at t2
      have hs := f.2 j (by omega)
      have e : sN d n ws (j + 1) = sN d n ws j + bt n (d - 1 - j) * ws j := rfl
      rw [half_bt n d j (by omega)]
      rcases bt_01 n (d - 1 - j) with b | b
      · rw [b] at e ⊢
        simp only [Nat.zero_mul] at e
        rw [if_neg (by omega)]
        congr 1
        · omega
        all_goals omega
      · rw [b] at e ⊢
        simp only [Nat.one_mul] at e
        rw [if_pos (by omega)]
        congr 1
        · omega
        all_goals omega
  have := aux d (Nat.le_refl _)
  rw [Nat.sub_self, Nat.pow_zero, Nat.div_one] at this
  rw [this]
  simp
structure Bij (h : Nat) (s : Nat → Nat → Nat) : Prop where
  lt : ∀ d n, d < h → n < 2 ^ d → s d n + 1 < 2 ^ h
  on : ∀ p, p + 1 < 2 ^ h → ∃ d n, d < h ∧ n < 2 ^ d ∧ s d n = p
  inj : ∀ d n d' n', d < h → n < 2 ^ d → d' < h → n' < 2 ^ d' → s d n = s d' n' → d = d' ∧ n = n'
theorem div_lt_p {n d t : Nat} (hn : n < 2 ^ d) (ht : t ≤ d) : n / 2 ^ (d - t) < 2 ^ t := by
  rw [Nat.div_lt_iff_lt_mul (p2pos _), ← Nat.pow_add, show t + (d - t) = d by omega]
  exact hn
theorem mod_lt_p (n k : Nat) : n % 2 ^ k < 2 ^ k := Nat.mod_lt _ (p2pos k)
theorem bij_cut {h t : Nat} {s1 s2 s : Nat → Nat → Nat} {f g : Nat → Nat} (ht : t < h) (b1 : Bij t s1) (b2 : Bij (h - t) s2)
    (top : ∀ d n, d < t → n < 2 ^ d → s d n = f (s1 d n))
    (bot : ∀ d n, t ≤ d → d < h → n < 2 ^ d → s d n = g (n / 2 ^ (d - t)) + s2 (d - t) (n % 2 ^ (d - t)))
    (f1 : ∀ q, q + 1 < 2 ^ t → f q + 1 < 2 ^ h)
    (g1 : ∀ j r, j < 2 ^ t → r + 1 < 2 ^ (h - t) → g j + r + 1 < 2 ^ h)
    (fi : ∀ q q', q + 1 < 2 ^ t → q' + 1 < 2 ^ t → f q = f q' → q = q')
    (fg : ∀ q j r, q + 1 < 2 ^ t → j < 2 ^ t → r + 1 < 2 ^ (h - t) → f q ≠ g j + r)
    (gi : ∀ j r j' r', j < 2 ^ t → r + 1 < 2 ^ (h - t) → j' < 2 ^ t → r' + 1 < 2 ^ (h - t) → g j + r = g j' + r' → j = j' ∧ r = r')
    (cov : ∀ p, p + 1 < 2 ^ h → (∃ q, q + 1 < 2 ^ t ∧ f q = p) ∨ ∃ j r, j < 2 ^ t ∧ r + 1 < 2 ^ (h - t) ∧ g j + r = p) : Bij h s where
  lt := by
    intro d n hd hn
    by_cases c : d < t
    · rw [top d n c hn]
      exact f1 _ (b1.lt d n c hn)
    · rw [bot d n (by omega) hd hn]
      exact g1 _ _ (div_lt_p hn (by omega)) (b2.lt _ _ (by omega) (mod_lt_p _ _))
  on := by
    intro p hp
    rcases cov p hp with ⟨q, h1, h2⟩ | ⟨j, r, h1, h2, h3⟩
    · obtain ⟨d, n, a1, a2, a3⟩ := b1.on q h1
      exact ⟨d, n, by omega, a2, by rw [top d n a1 a2, a3, h2]⟩
    · obtain ⟨d, n, a1, a2, a3⟩ := b2.on r h2
      have e1 : (j * 2 ^ d + n) / 2 ^ d = j := by rw [Nat.mul_comm, Nat.mul_add_div (p2pos d), Nat.div_eq_of_lt a2, Nat.add_zero]
      have e2 : (j * 2 ^ d + n) % 2 ^ d = n := by rw [Nat.mul_comm, Nat.mul_add_mod, Nat.mod_eq_of_lt a2]
      have e3 : j * 2 ^ d + n < 2 ^ (t + d) := by
        rw [Nat.pow_add]
        have : (j + 1) * 2 ^ d ≤ 2 ^ t * 2 ^ d := Nat.mul_le_mul_right _ h1
        rw [Nat.add_mul, Nat.one_mul] at this
        omega
      refine ⟨t + d, j * 2 ^ d + n, by omega, e3, ?_⟩
      rw [bot _ _ (by omega) (by omega) e3, show t + d - t = d by omega, e1, e2, a3, h3]
  inj := by
    intro d n d' n' hd hn hd' hn' e
    by_cases c : d < t <;> by_cases c' : d' < t
    · rw [top d n c hn, top d' n' c' hn'] at e
      exact b1.inj _ _ _ _ c hn c' hn' (fi _ _ (b1.lt _ _ c hn) (b1.lt _ _ c' hn') e)
    · rw [top d n c hn, bot d' n' (by omega) hd' hn'] at e
      exact absurd e (fg _ _ _ (b1.lt _ _ c hn) (div_lt_p hn' (by omega)) (b2.lt _ _ (by omega) (mod_lt_p _ _)))
    · rw [top d' n' c' hn', bot d n (by omega) hd hn] at e
      exact absurd e.symm (fg _ _ _ (b1.lt _ _ c' hn') (div_lt_p hn (by omega)) (b2.lt _ _ (by omega) (mod_lt_p _ _)))
    · rw [bot d n (by omega) hd hn, bot d' n' (by omega) hd' hn'] at e
      obtain ⟨e1, e2⟩ := gi _ _ _ _ (div_lt_p hn (by omega)) (b2.lt _ _ (by omega) (mod_lt_p _ _)) (div_lt_p hn' (by omega)) (b2.lt _ _ (by omega) (mod_lt_p _ _)) e
      obtain ⟨e3, e4⟩ := b2.inj _ _ _ _ (by omega) (mod_lt_p _ _) (by omega) (mod_lt_p _ _) e2
      have e5 : d = d' := by omega
      subst e5
      refine ⟨rfl, ?_⟩
      rw [← Nat.div_add_mod n (2 ^ (d - t)), ← Nat.div_add_mod n' (2 ^ (d - t)), e1, e4]
end SM
namespace SM
open PySem PySem.Spec DL
open PyProof.Rows hiding St
theorem lE (n : Nat) (h : n ≤ 1000) : n ≤ LINE := by show n ≤ 16777216; omega
theorem l0 : 0 ≤ LINE := lE 0 (by omega)
theorem l1 : 1 ≤ LINE := lE 1 (by omega)
theorem l2 : 2 ≤ LINE := lE 2 (by omega)
theorem l3 : 3 ≤ LINE := lE 3 (by omega)
theorem l4 : 4 ≤ LINE := lE 4 (by omega)
theorem l5 : 5 ≤ LINE := lE 5 (by omega)
theorem l6 : 6 ≤ LINE := lE 6 (by omega)
theorem l7 : 7 ≤ LINE := lE 7 (by omega)
theorem l8 : 8 ≤ LINE := lE 8 (by omega)
theorem nd_ix0 (d n : Nat) : dIx (nd d n) (.int 0) = some (.int d, false) := id rfl
theorem nd_ix1 (d n : Nat) : dIx (nd d n) (.int 1) = some (.int n, false) := id rfl
theorem nd_is (d n : Nat) : dIs (nd d n) .none = some (.bool false, false) := id rfl
theorem nd_isn (d n : Nat) : dIsN (nd d n) .none = some (.bool true, false) := id rfl
theorem at_nat {α : Type} {xs : List α} {k : Nat} {x : α} (h : xs[k]? = some x) : L2.atI xs (k : Int) = some x := by
  have hk : k < xs.length := (List.getElem?_eq_some_iff.mp h).1
  have c : (0 : Int) ≤ k := by omega
  have c2 : (k : Int) < xs.length := by omega
  unfold L2.atI L2.ixN
  rw [if_pos c, if_pos c2]
  simpa using h
end SM
namespace SM
open PySem PySem.Spec DL
open PyProof.Rows hiding St
theorem is_node_ok (h d n : Nat) (hd : d < h) (hh : h ≤ 100) (hn : n < 2 ^ d) : m_is_node [.int h, nd d n] = .ok (.bool true, false) [] := by
  have e1 := shl1 d (by omega)
  have e2 : (n : Int) ≤ 2 ^ d - 1 := by
    have : (n : Int) < (2 ^ d : Nat) := by exact_mod_cast hn
    have e := pw d
    omega
  have e3 : (d : Int) ≤ h - 1 := by omega
  simp [m_is_node, b_is_node, nd, e_tUnl, e_ext, e_ext0, e_ext1, e_ext2, e_dix, e_dix1, e_dix2, e_look, e_rev, e_rev1, e_lr1, e_lr11, e_isE1, e_isE2, e_isE3, e_isE4, e_isE5, e_isE6, e_try, e_try1, e_try2, e_eqAS, e_neAS, e_eqAI, e_neAI, e_bind_ok, e_bind_exc, e_bind_stk, e_var, e_var1, e_var2, e_move, e_move1, e_move2, e_C, e_fin1, e_bin, e_bin1, e_bin2, e_chain, e_chain1, e_chain2, e_chain3, e_chain4, e_chain5, e_if, e_if1, e_if2, e_tv, e_tv1, e_notT, e_notT1, e_andT, e_andT1, e_andT2, e_orT, e_orT1, e_orT2, e_andV, e_andV1, e_andV2, e_orV, e_orV1, e_orV2, e_notV, e_notV1, e_aNil, e_aCons, e_aCons1, e_aCons2, e_star, e_star1, e_star2, e_star3, e_lst, e_lst1, e_tup, e_tup1, e_call, e_call1, e_slot, e_slot1, e_sb, e_sb0, e_sb1, e_sb2, e_sb3, e_bs, e_bs1, e_bs2, e_lenV, e_lenV1, e_un, e_un1, e_def, e_def1, e_def2, e_def3, e_fix0, e_fix1, e_fix2, e_def4, e_def0, e_def01, e_jNil, e_jVal, e_jVal1, e_j2, e_jIo, e_jIo1, e_itD0, e_itD1, e_itD2, e_itD3, e_itJ0, e_itJ1, e_itJ2, e_itP0, e_itP1, e_itP2, e_setMany0, e_setMany1, e_nodup0, e_nodup1, e_noPart, e_part, e_part1, e_slice, e_slice1, e_slice2, e_slice3, e_lstRg, e_lstRg1, e_lstRg2, e_iSeq, e_iSeq1, e_iSeq2, e_iEn, e_iEn1, e_iEn2, e_iR1, e_iR11, e_iR2, e_iR21, e_yes, e_lc, e_lc1, e_lc2, e_wipe0, e_wipe1, e_back0, e_back1, e_back2, e_noneOwn0, e_noneOwn1, e_noneOwn2, e_noneOwn3, e_noneOwn4, e_name, e_set, e_tNil, e_tCons, e_tCons1, e_tTup, e_seq, e_seq1, e_seq2, e_seq3, e_seq4, e_seq5, e_next, e_break, e_cont, e_expr, e_expr1, e_ret, e_ret1, e_sIf, e_sIf1, e_sIf2, e_asg, e_asg1, e_asg2, e_aug, e_aug0, e_aug1, e_aug2, e_aug3, e_par, e_par1, e_par2, e_app, e_app0, e_app1, e_app2, e_setIx, e_setIx0, e_setIx1, e_setIx2, e_setIx3, e_setIx4, e_match, e_match1, e_mCase, e_mAny, e_raise, e_for, e_body, e_body1, e_body2, e_body3, e_body4, e_body5, e_outs0, e_outs1, e_outs2, e_start0, e_start1, e_addI, e_addL, e_addI2, e_sub, e_cmp, e_eqI, e_neI, e_eqB, e_isN0, e_isN1, e_isN2, e_isN3, e_notN0, e_notN1, e_notN2, e_notN3, e_int, e_intB, e_max, e_min, e_neg, e_bits, e_lenL, e_lenT, e_lenS, e_ixL, e_ixT, e_ixS, e_at0, e_at1, e_at2, e_map, e_lstOf, e_lstOfS, e_seqOf, e_seqOfT, e_seqOfS, e_isiIB, e_isiII, e_isiTT, e_isiLL, is_whole_int, e1, e2, e3]
theorem req_node (h d n : Nat) (hd : d < h) (hh : h ≤ 100) (hn : n < 2 ^ d) : m_require_node [.int h, nd d n] = .ok (.none, false) [] := by
  simp [m_require_node, b_require_node, is_node_ok h d n hd hh hn, e_tUnl, e_ext, e_ext0, e_ext1, e_ext2, e_dix, e_dix1, e_dix2, e_look, e_rev, e_rev1, e_lr1, e_lr11, e_isE1, e_isE2, e_isE3, e_isE4, e_isE5, e_isE6, e_try, e_try1, e_try2, e_eqAS, e_neAS, e_eqAI, e_neAI, e_bind_ok, e_bind_exc, e_bind_stk, e_var, e_var1, e_var2, e_move, e_move1, e_move2, e_C, e_fin1, e_bin, e_bin1, e_bin2, e_chain, e_chain1, e_chain2, e_chain3, e_chain4, e_chain5, e_if, e_if1, e_if2, e_tv, e_tv1, e_notT, e_notT1, e_andT, e_andT1, e_andT2, e_orT, e_orT1, e_orT2, e_andV, e_andV1, e_andV2, e_orV, e_orV1, e_orV2, e_notV, e_notV1, e_aNil, e_aCons, e_aCons1, e_aCons2, e_star, e_star1, e_star2, e_star3, e_lst, e_lst1, e_tup, e_tup1, e_call, e_call1, e_slot, e_slot1, e_sb, e_sb0, e_sb1, e_sb2, e_sb3, e_bs, e_bs1, e_bs2, e_lenV, e_lenV1, e_un, e_un1, e_def, e_def1, e_def2, e_def3, e_fix0, e_fix1, e_fix2, e_def4, e_def0, e_def01, e_jNil, e_jVal, e_jVal1, e_j2, e_jIo, e_jIo1, e_itD0, e_itD1, e_itD2, e_itD3, e_itJ0, e_itJ1, e_itJ2, e_itP0, e_itP1, e_itP2, e_setMany0, e_setMany1, e_nodup0, e_nodup1, e_noPart, e_part, e_part1, e_slice, e_slice1, e_slice2, e_slice3, e_lstRg, e_lstRg1, e_lstRg2, e_iSeq, e_iSeq1, e_iSeq2, e_iEn, e_iEn1, e_iEn2, e_iR1, e_iR11, e_iR2, e_iR21, e_yes, e_lc, e_lc1, e_lc2, e_wipe0, e_wipe1, e_back0, e_back1, e_back2, e_noneOwn0, e_noneOwn1, e_noneOwn2, e_noneOwn3, e_noneOwn4, e_name, e_set, e_tNil, e_tCons, e_tCons1, e_tTup, e_seq, e_seq1, e_seq2, e_seq3, e_seq4, e_seq5, e_next, e_break, e_cont, e_expr, e_expr1, e_ret, e_ret1, e_sIf, e_sIf1, e_sIf2, e_asg, e_asg1, e_asg2, e_aug, e_aug0, e_aug1, e_aug2, e_aug3, e_par, e_par1, e_par2, e_app, e_app0, e_app1, e_app2, e_setIx, e_setIx0, e_setIx1, e_setIx2, e_setIx3, e_setIx4, e_match, e_match1, e_mCase, e_mAny, e_raise, e_for, e_body, e_body1, e_body2, e_body3, e_body4, e_body5, e_outs0, e_outs1, e_outs2, e_start0, e_start1, e_addI, e_addL, e_addI2, e_sub, e_cmp, e_eqI, e_neI, e_eqB, e_isN0, e_isN1, e_isN2, e_isN3, e_notN0, e_notN1, e_notN2, e_notN3, e_int, e_intB, e_max, e_min, e_neg, e_bits, e_lenL, e_lenT, e_lenS, e_ixL, e_ixT, e_ixS, e_at0, e_at1, e_at2, e_map, e_lstOf, e_lstOfS, e_seqOf, e_seqOfT, e_seqOfS, e_isiIB, e_isiII, e_isiTT, e_isiLL]
end SM
namespace SM
open PySem PySem.Spec DL
open PyProof.Rows hiding St
theorem lcD_filmap {α : Type} {vs : List Nat} {tgt : D → Bool → Sl → Option Sl} {gt : Sl → R Sl Bool} {ge : Sl → EV} {δ : Sl} (g : α → D) (p : α → Bool) (f : α → D) : ∀ {ps : List α} (acc : List D),
    (∀ a ∈ ps, ∃ δ1 δ2, tgt (g a) false δ = some δ1 ∧ gt δ1 = .ok (p a) δ2 ∧ (p a = false → wipeD δ2 vs = δ) ∧ (p a = true → ∃ δ3 fr, ge δ2 = .ok (f a, fr) δ3 ∧ wipeD δ3 vs = δ)) → lcD vs tgt gt ge (ps.map g) acc δ = .ok (acc ++ (ps.filter p).map f) δ
  | [], acc, _ => by simp [lcD]
  | a :: r, acc, h => by
    obtain ⟨δ1, δ2, h1, h2, h3, h4⟩ := h a (by simp)
    rw [List.map_cons]
    cases c : p a with
    | false =>
      have ih := lcD_filmap (ps := r) g p f acc fun x hx => h x (by simp [hx])
      rw [c] at h2
      simp only [lcD, h1, h2, h3 c]
      rw [ih]
      simp [c]
    | true =>
      obtain ⟨δ3, fr, h5, h6⟩ := h4 c
      have ih := lcD_filmap (ps := r) g p f (acc ++ [f a]) fun x hx => h x (by simp [hx])
      rw [c] at h2
      simp only [lcD, h1, h2, h5, h6]
      rw [ih]
      simp [c]
end SM
namespace SM
open PySem PySem.Spec DL
open PyProof.Rows hiding St
def sgn (b : Nat) : Nat := if b = 1 then 82 else 76
def wayC (d n : Nat) : List Nat := (List.range d).map fun i => sgn (bt n (d - 1 - i))
def wdC (d n : Nat) : List Nat := if d = 0 then [45] else wayC d n
def wS (d n : Nat) : Str := ⟨(wdC d n).toArray⟩
theorem joinE : ∀ l : List Nat, TL.joinL [] (l.map fun c => [c]) = l
  | [] => rfl
  | [c] => rfl
  | c :: d :: r => by
    have ih := joinE (d :: r)
    show [c] ++ ([] ++ TL.joinL [] ((d :: r).map fun c => [c])) = _
    rw [ih]
    rfl
theorem join_one (l : List Nat) : Txt.join z_ (l.map fun c => (⟨#[c]⟩ : Str)) = ⟨l.toArray⟩ := by
  refine TL.ext_tl ?_
  rw [TL.join_eq, TL.tl_join, List.map_map]
  exact joinE l
theorem strsD_map : ∀ ys : List Str, strsD (ys.map PyData.str) = some ys
  | [] => rfl
  | y :: r => by
    show (strsD (r.map PyData.str)).map (y :: ·) = _
    rw [strsD_map r]
    rfl
theorem sum_ones (l : List Nat) : ((l.map fun c => (⟨#[c]⟩ : Str)).map (·.length)).sum = l.length := by
  induction l with
  | nil => rfl
  | cons c r ih =>
    rw [List.map_cons, List.map_cons, List.sum_cons, ih, List.length_cons]
    show 1 + r.length = _
    omega
def oneS (l : List Nat) : List D := l.map fun c => .str ⟨#[c]⟩
theorem oneS_strs (l : List Nat) : strsD (oneS l) = some (l.map fun c => (⟨#[c]⟩ : Str)) := by
  have := strsD_map (l.map fun c => (⟨#[c]⟩ : Str))
  rw [List.map_map] at this
  exact this
theorem join_step {go ge : Sl → EV} {δ δ1 δ2 : Sl} {a : Str} {ds : List D} {ys : List Str} {f1 f2 : Bool} (h1 : go δ = .ok (.str a, f1) δ1) (h2 : ge δ1 = .ok (.list ds, f2) δ2) (h3 : strsD ds = some ys) (h4 : (ys.map (·.length)).sum + ys.length * a.length ≤ 16777216) : gJoin go ge δ = .ok (.str (Txt.join a ys), false) δ2 := by
  unfold gJoin
  rw [h1, e_bind_ok]
  dsimp only
  rw [h2, e_bind_ok]
  dsimp only
  rw [h3]
  dsimp only
  rw [if_pos h4]
theorem bit_at (d n i : Nat) (hi : i < d) : dShr (.int n) (.int ((d : Int) - 1 - (i : Int))) = some (.int ((n / 2 ^ (d - 1 - i) : Nat) : Int), false) := by
  rw [dShr_ok (by omega), show ((d : Int) - 1 - (i : Int)).toNat = d - 1 - i by omega]
  simp
theorem and_one (m : Nat) : dAnd (.int (m : Int)) (.int 1) = some (.int ((m % 2 : Nat) : Int), false) := by
  have := Bits.bitAnd_mask 1 (x := (m : Int)) (Int.natCast_nonneg _)
  show some (PyData.int (Builtin.bitAnd _ 1), false) = _
  rw [show (1 : Int) = 2 ^ 1 - 1 by rfl, this]
  simp
theorem lr_at (m : Nat) (hm : m < 2) : dIx (.str z_LR) (.int (m : Int)) = some (.str ⟨#[sgn m]⟩, false) := by
  have c : m = 0 ∨ m = 1 := by omega
  rcases c with rfl | rfl <;> exact id rfl
theorem bt_def (n b : Nat) : bt n b = n / 2 ^ b % 2 := rfl
theorem node_text_ok (d n : Nat) (hd : d < 100) : m_node_text [nd d n] = .ok (.str (wS d n), false) [] := by
  by_cases c : d = 0
  · subst c
    have e : wS 0 n = z_h336d5ebc := rfl
    rw [e]
    simp [m_node_text, b_node_text, nd, e_tUnl, e_ext, e_ext0, e_ext1, e_ext2, e_dix, e_dix1, e_dix2, e_look, e_rev, e_rev1, e_lr1, e_lr11, e_isE1, e_isE2, e_isE3, e_isE4, e_isE5, e_isE6, e_try, e_try1, e_try2, e_eqAS, e_neAS, e_eqAI, e_neAI, e_bind_ok, e_bind_exc, e_bind_stk, e_var, e_var1, e_var2, e_move, e_move1, e_move2, e_C, e_fin1, e_bin, e_bin1, e_bin2, e_chain, e_chain1, e_chain2, e_chain3, e_chain4, e_chain5, e_if, e_if1, e_if2, e_tv, e_tv1, e_notT, e_notT1, e_andT, e_andT1, e_andT2, e_orT, e_orT1, e_orT2, e_andV, e_andV1, e_andV2, e_orV, e_orV1, e_orV2, e_notV, e_notV1, e_aNil, e_aCons, e_aCons1, e_aCons2, e_star, e_star1, e_star2, e_star3, e_lst, e_lst1, e_tup, e_tup1, e_call, e_call1, e_slot, e_slot1, e_sb, e_sb0, e_sb1, e_sb2, e_sb3, e_bs, e_bs1, e_bs2, e_lenV, e_lenV1, e_un, e_un1, e_def, e_def1, e_def2, e_def3, e_fix0, e_fix1, e_fix2, e_def4, e_def0, e_def01, e_jNil, e_jVal, e_jVal1, e_j2, e_jIo, e_jIo1, e_itD0, e_itD1, e_itD2, e_itD3, e_itJ0, e_itJ1, e_itJ2, e_itP0, e_itP1, e_itP2, e_setMany0, e_setMany1, e_nodup0, e_nodup1, e_noPart, e_part, e_part1, e_slice, e_slice1, e_slice2, e_slice3, e_lstRg, e_lstRg1, e_lstRg2, e_iSeq, e_iSeq1, e_iSeq2, e_iEn, e_iEn1, e_iEn2, e_iR1, e_iR11, e_iR2, e_iR21, e_yes, e_lc, e_lc1, e_lc2, e_wipe0, e_wipe1, e_back0, e_back1, e_back2, e_noneOwn0, e_noneOwn1, e_noneOwn2, e_noneOwn3, e_noneOwn4, e_name, e_set, e_tNil, e_tCons, e_tCons1, e_tTup, e_seq, e_seq1, e_seq2, e_seq3, e_seq4, e_seq5, e_next, e_break, e_cont, e_expr, e_expr1, e_ret, e_ret1, e_sIf, e_sIf1, e_sIf2, e_asg, e_asg1, e_asg2, e_aug, e_aug0, e_aug1, e_aug2, e_aug3, e_par, e_par1, e_par2, e_app, e_app0, e_app1, e_app2, e_setIx, e_setIx0, e_setIx1, e_setIx2, e_setIx3, e_setIx4, e_match, e_match1, e_mCase, e_mAny, e_raise, e_for, e_body, e_body1, e_body2, e_body3, e_body4, e_body5, e_outs0, e_outs1, e_outs2, e_start0, e_start1, e_addI, e_addL, e_addI2, e_sub, e_cmp, e_eqI, e_neI, e_eqB, e_isN0, e_isN1, e_isN2, e_isN3, e_notN0, e_notN1, e_notN2, e_notN3, e_int, e_intB, e_max, e_min, e_neg, e_bits, e_lenL, e_lenT, e_lenS, e_ixL, e_ixT, e_ixS, e_at0, e_at1, e_at2, e_map, e_lstOf, e_lstOfS, e_seqOf, e_seqOfT, e_seqOfS, e_isiIB, e_isiII, e_isiTT, e_isiLL]
  · have c' : ((d : Int) == 0) = false := by simp; omega
    have lc := lcD_filmap (vs := [3]) (tgt := gtName [] 3) (gt := gYes) (ge := ce_node_text_1) (δ := [some (false, nd d n), some (false, PyData.int (d)), some (false, PyData.int (n)), none]) (fun i : Nat => PyData.int (0 + (i : Int))) (fun _ => true) (fun i : Nat => PyData.str ⟨#[sgn (bt n (d - 1 - i))]⟩) (ps := List.range d) [] (by
      intro i hi
      have hi := List.mem_range.mp hi
      have e1 := bit_at d n i hi
      have e2 := and_one (n / 2 ^ (d - 1 - i))
      have e3 := lr_at (n / 2 ^ (d - 1 - i) % 2) (by omega)
      rw [← bt_def] at e2 e3
      generalize nd d n = ND at *
      generalize ((n / 2 ^ (d - 1 - i) : Nat) : Int) = Q at *
      generalize bt n (d - 1 - i) = BT at *
      refine ⟨[some (false, ND), some (false, PyData.int (d)), some (false, PyData.int (n)), some (false, PyData.int (0 + (i : Int)))], [some (false, ND), some (false, PyData.int (d)), some (false, PyData.int (n)), some (false, PyData.int (0 + (i : Int)))], by simp [e_tUnl, e_ext, e_ext0, e_ext1, e_ext2, e_dix, e_dix1, e_dix2, e_look, e_rev, e_rev1, e_lr1, e_lr11, e_isE1, e_isE2, e_isE3, e_isE4, e_isE5, e_isE6, e_try, e_try1, e_try2, e_eqAS, e_neAS, e_eqAI, e_neAI, e_bind_ok, e_bind_exc, e_bind_stk, e_var, e_var1, e_var2, e_move, e_move1, e_move2, e_C, e_fin1, e_bin, e_bin1, e_bin2, e_chain, e_chain1, e_chain2, e_chain3, e_chain4, e_chain5, e_if, e_if1, e_if2, e_tv, e_tv1, e_notT, e_notT1, e_andT, e_andT1, e_andT2, e_orT, e_orT1, e_orT2, e_andV, e_andV1, e_andV2, e_orV, e_orV1, e_orV2, e_notV, e_notV1, e_aNil, e_aCons, e_aCons1, e_aCons2, e_star, e_star1, e_star2, e_star3, e_lst, e_lst1, e_tup, e_tup1, e_call, e_call1, e_slot, e_slot1, e_sb, e_sb0, e_sb1, e_sb2, e_sb3, e_bs, e_bs1, e_bs2, e_lenV, e_lenV1, e_un, e_un1, e_def, e_def1, e_def2, e_def3, e_fix0, e_fix1, e_fix2, e_def4, e_def0, e_def01, e_jNil, e_jVal, e_jVal1, e_j2, e_jIo, e_jIo1, e_itD0, e_itD1, e_itD2, e_itD3, e_itJ0, e_itJ1, e_itJ2, e_itP0, e_itP1, e_itP2, e_setMany0, e_setMany1, e_nodup0, e_nodup1, e_noPart, e_part, e_part1, e_slice, e_slice1, e_slice2, e_slice3, e_lstRg, e_lstRg1, e_lstRg2, e_iSeq, e_iSeq1, e_iSeq2, e_iEn, e_iEn1, e_iEn2, e_iR1, e_iR11, e_iR2, e_iR21, e_yes, e_lc, e_lc1, e_lc2, e_wipe0, e_wipe1, e_back0, e_back1, e_back2, e_noneOwn0, e_noneOwn1, e_noneOwn2, e_noneOwn3, e_noneOwn4, e_name, e_set, e_tNil, e_tCons, e_tCons1, e_tTup, e_seq, e_seq1, e_seq2, e_seq3, e_seq4, e_seq5, e_next, e_break, e_cont, e_expr, e_expr1, e_ret, e_ret1, e_sIf, e_sIf1, e_sIf2, e_asg, e_asg1, e_asg2, e_aug, e_aug0, e_aug1, e_aug2, e_aug3, e_par, e_par1, e_par2, e_app, e_app0, e_app1, e_app2, e_setIx, e_setIx0, e_setIx1, e_setIx2, e_setIx3, e_setIx4, e_match, e_match1, e_mCase, e_mAny, e_raise, e_for, e_body, e_body1, e_body2, e_body3, e_body4, e_body5, e_outs0, e_outs1, e_outs2, e_start0, e_start1, e_addI, e_addL, e_addI2, e_sub, e_cmp, e_eqI, e_neI, e_eqB, e_isN0, e_isN1, e_isN2, e_isN3, e_notN0, e_notN1, e_notN2, e_notN3, e_int, e_intB, e_max, e_min, e_neg, e_bits, e_lenL, e_lenT, e_lenS, e_ixL, e_ixT, e_ixS, e_at0, e_at1, e_at2, e_map, e_lstOf, e_lstOfS, e_seqOf, e_seqOfT, e_seqOfS, e_isiIB, e_isiII, e_isiTT, e_isiLL], by simp [e_tUnl, e_ext, e_ext0, e_ext1, e_ext2, e_dix, e_dix1, e_dix2, e_look, e_rev, e_rev1, e_lr1, e_lr11, e_isE1, e_isE2, e_isE3, e_isE4, e_isE5, e_isE6, e_try, e_try1, e_try2, e_eqAS, e_neAS, e_eqAI, e_neAI, e_bind_ok, e_bind_exc, e_bind_stk, e_var, e_var1, e_var2, e_move, e_move1, e_move2, e_C, e_fin1, e_bin, e_bin1, e_bin2, e_chain, e_chain1, e_chain2, e_chain3, e_chain4, e_chain5, e_if, e_if1, e_if2, e_tv, e_tv1, e_notT, e_notT1, e_andT, e_andT1, e_andT2, e_orT, e_orT1, e_orT2, e_andV, e_andV1, e_andV2, e_orV, e_orV1, e_orV2, e_notV, e_notV1, e_aNil, e_aCons, e_aCons1, e_aCons2, e_star, e_star1, e_star2, e_star3, e_lst, e_lst1, e_tup, e_tup1, e_call, e_call1, e_slot, e_slot1, e_sb, e_sb0, e_sb1, e_sb2, e_sb3, e_bs, e_bs1, e_bs2, e_lenV, e_lenV1, e_un, e_un1, e_def, e_def1, e_def2, e_def3, e_fix0, e_fix1, e_fix2, e_def4, e_def0, e_def01, e_jNil, e_jVal, e_jVal1, e_j2, e_jIo, e_jIo1, e_itD0, e_itD1, e_itD2, e_itD3, e_itJ0, e_itJ1, e_itJ2, e_itP0, e_itP1, e_itP2, e_setMany0, e_setMany1, e_nodup0, e_nodup1, e_noPart, e_part, e_part1, e_slice, e_slice1, e_slice2, e_slice3, e_lstRg, e_lstRg1, e_lstRg2, e_iSeq, e_iSeq1, e_iSeq2, e_iEn, e_iEn1, e_iEn2, e_iR1, e_iR11, e_iR2, e_iR21, e_yes, e_lc, e_lc1, e_lc2, e_wipe0, e_wipe1, e_back0, e_back1, e_back2, e_noneOwn0, e_noneOwn1, e_noneOwn2, e_noneOwn3, e_noneOwn4, e_name, e_set, e_tNil, e_tCons, e_tCons1, e_tTup, e_seq, e_seq1, e_seq2, e_seq3, e_seq4, e_seq5, e_next, e_break, e_cont, e_expr, e_expr1, e_ret, e_ret1, e_sIf, e_sIf1, e_sIf2, e_asg, e_asg1, e_asg2, e_aug, e_aug0, e_aug1, e_aug2, e_aug3, e_par, e_par1, e_par2, e_app, e_app0, e_app1, e_app2, e_setIx, e_setIx0, e_setIx1, e_setIx2, e_setIx3, e_setIx4, e_match, e_match1, e_mCase, e_mAny, e_raise, e_for, e_body, e_body1, e_body2, e_body3, e_body4, e_body5, e_outs0, e_outs1, e_outs2, e_start0, e_start1, e_addI, e_addL, e_addI2, e_sub, e_cmp, e_eqI, e_neI, e_eqB, e_isN0, e_isN1, e_isN2, e_isN3, e_notN0, e_notN1, e_notN2, e_notN3, e_int, e_intB, e_max, e_min, e_neg, e_bits, e_lenL, e_lenT, e_lenS, e_ixL, e_ixT, e_ixS, e_at0, e_at1, e_at2, e_map, e_lstOf, e_lstOfS, e_seqOf, e_seqOfT, e_seqOfS, e_isiIB, e_isiII, e_isiTT, e_isiLL], fun z => absurd z (by decide), fun _ => ⟨[some (false, ND), some (false, PyData.int (d)), some (false, PyData.int (n)), some (false, PyData.int (0 + (i : Int)))], false, by simp [ce_node_text_1, e_tUnl, e_ext, e_ext0, e_ext1, e_ext2, e_dix, e_dix1, e_dix2, e_look, e_rev, e_rev1, e_lr1, e_lr11, e_isE1, e_isE2, e_isE3, e_isE4, e_isE5, e_isE6, e_try, e_try1, e_try2, e_eqAS, e_neAS, e_eqAI, e_neAI, e_bind_ok, e_bind_exc, e_bind_stk, e_var, e_var1, e_var2, e_move, e_move1, e_move2, e_C, e_fin1, e_bin, e_bin1, e_bin2, e_chain, e_chain1, e_chain2, e_chain3, e_chain4, e_chain5, e_if, e_if1, e_if2, e_tv, e_tv1, e_notT, e_notT1, e_andT, e_andT1, e_andT2, e_orT, e_orT1, e_orT2, e_andV, e_andV1, e_andV2, e_orV, e_orV1, e_orV2, e_notV, e_notV1, e_aNil, e_aCons, e_aCons1, e_aCons2, e_star, e_star1, e_star2, e_star3, e_lst, e_lst1, e_tup, e_tup1, e_call, e_call1, e_slot, e_slot1, e_sb, e_sb0, e_sb1, e_sb2, e_sb3, e_bs, e_bs1, e_bs2, e_lenV, e_lenV1, e_un, e_un1, e_def, e_def1, e_def2, e_def3, e_fix0, e_fix1, e_fix2, e_def4, e_def0, e_def01, e_jNil, e_jVal, e_jVal1, e_j2, e_jIo, e_jIo1, e_itD0, e_itD1, e_itD2, e_itD3, e_itJ0, e_itJ1, e_itJ2, e_itP0, e_itP1, e_itP2, e_setMany0, e_setMany1, e_nodup0, e_nodup1, e_noPart, e_part, e_part1, e_slice, e_slice1, e_slice2, e_slice3, e_lstRg, e_lstRg1, e_lstRg2, e_iSeq, e_iSeq1, e_iSeq2, e_iEn, e_iEn1, e_iEn2, e_iR1, e_iR11, e_iR2, e_iR21, e_yes, e_lc, e_lc1, e_lc2, e_wipe0, e_wipe1, e_back0, e_back1, e_back2, e_noneOwn0, e_noneOwn1, e_noneOwn2, e_noneOwn3, e_noneOwn4, e_name, e_set, e_tNil, e_tCons, e_tCons1, e_tTup, e_seq, e_seq1, e_seq2, e_seq3, e_seq4, e_seq5, e_next, e_break, e_cont, e_expr, e_expr1, e_ret, e_ret1, e_sIf, e_sIf1, e_sIf2, e_asg, e_asg1, e_asg2, e_aug, e_aug0, e_aug1, e_aug2, e_aug3, e_par, e_par1, e_par2, e_app, e_app0, e_app1, e_app2, e_setIx, e_setIx0, e_setIx1, e_setIx2, e_setIx3, e_setIx4, e_match, e_match1, e_mCase, e_mAny, e_raise, e_for, e_body, e_body1, e_body2, e_body3, e_body4, e_body5, e_outs0, e_outs1, e_outs2, e_start0, e_start1, e_addI, e_addL, e_addI2, e_sub, e_cmp, e_eqI, e_neI, e_eqB, e_isN0, e_isN1, e_isN2, e_isN3, e_notN0, e_notN1, e_notN2, e_notN3, e_int, e_intB, e_max, e_min, e_neg, e_bits, e_lenL, e_lenT, e_lenS, e_ixL, e_ixT, e_ixS, e_at0, e_at1, e_at2, e_map, e_lstOf, e_lstOfS, e_seqOf, e_seqOfT, e_seqOfS, e_isiIB, e_isiII, e_isiTT, e_isiLL, e1, e2, e3, -e_ixS], by simp [e_tUnl, e_ext, e_ext0, e_ext1, e_ext2, e_dix, e_dix1, e_dix2, e_look, e_rev, e_rev1, e_lr1, e_lr11, e_isE1, e_isE2, e_isE3, e_isE4, e_isE5, e_isE6, e_try, e_try1, e_try2, e_eqAS, e_neAS, e_eqAI, e_neAI, e_bind_ok, e_bind_exc, e_bind_stk, e_var, e_var1, e_var2, e_move, e_move1, e_move2, e_C, e_fin1, e_bin, e_bin1, e_bin2, e_chain, e_chain1, e_chain2, e_chain3, e_chain4, e_chain5, e_if, e_if1, e_if2, e_tv, e_tv1, e_notT, e_notT1, e_andT, e_andT1, e_andT2, e_orT, e_orT1, e_orT2, e_andV, e_andV1, e_andV2, e_orV, e_orV1, e_orV2, e_notV, e_notV1, e_aNil, e_aCons, e_aCons1, e_aCons2, e_star, e_star1, e_star2, e_star3, e_lst, e_lst1, e_tup, e_tup1, e_call, e_call1, e_slot, e_slot1, e_sb, e_sb0, e_sb1, e_sb2, e_sb3, e_bs, e_bs1, e_bs2, e_lenV, e_lenV1, e_un, e_un1, e_def, e_def1, e_def2, e_def3, e_fix0, e_fix1, e_fix2, e_def4, e_def0, e_def01, e_jNil, e_jVal, e_jVal1, e_j2, e_jIo, e_jIo1, e_itD0, e_itD1, e_itD2, e_itD3, e_itJ0, e_itJ1, e_itJ2, e_itP0, e_itP1, e_itP2, e_setMany0, e_setMany1, e_nodup0, e_nodup1, e_noPart, e_part, e_part1, e_slice, e_slice1, e_slice2, e_slice3, e_lstRg, e_lstRg1, e_lstRg2, e_iSeq, e_iSeq1, e_iSeq2, e_iEn, e_iEn1, e_iEn2, e_iR1, e_iR11, e_iR2, e_iR21, e_yes, e_lc, e_lc1, e_lc2, e_wipe0, e_wipe1, e_back0, e_back1, e_back2, e_noneOwn0, e_noneOwn1, e_noneOwn2, e_noneOwn3, e_noneOwn4, e_name, e_set, e_tNil, e_tCons, e_tCons1, e_tTup, e_seq, e_seq1, e_seq2, e_seq3, e_seq4, e_seq5, e_next, e_break, e_cont, e_expr, e_expr1, e_ret, e_ret1, e_sIf, e_sIf1, e_sIf2, e_asg, e_asg1, e_asg2, e_aug, e_aug0, e_aug1, e_aug2, e_aug3, e_par, e_par1, e_par2, e_app, e_app0, e_app1, e_app2, e_setIx, e_setIx0, e_setIx1, e_setIx2, e_setIx3, e_setIx4, e_match, e_match1, e_mCase, e_mAny, e_raise, e_for, e_body, e_body1, e_body2, e_body3, e_body4, e_body5, e_outs0, e_outs1, e_outs2, e_start0, e_start1, e_addI, e_addL, e_addI2, e_sub, e_cmp, e_eqI, e_neI, e_eqB, e_isN0, e_isN1, e_isN2, e_isN3, e_notN0, e_notN1, e_notN2, e_notN3, e_int, e_intB, e_max, e_min, e_neg, e_bits, e_lenL, e_lenT, e_lenS, e_ixL, e_ixT, e_ixS, e_at0, e_at1, e_at2, e_map, e_lstOf, e_lstOfS, e_seqOf, e_seqOfT, e_seqOfS, e_isiIB, e_isiII, e_isiTT, e_isiLL]⟩⟩)
    rw [List.nil_append, List.filter_eq_self.mpr (show ∀ a ∈ List.range d, (fun _ : Nat => true) a = true from fun _ _ => rfl)] at lc
    have rgm : rgN 0 d = (List.range d).map fun i : Nat => PyData.int (0 + (i : Int)) := rfl
    have out : (List.range d).map (fun i : Nat => PyData.str ⟨#[sgn (bt n (d - 1 - i))]⟩) = oneS (wayC d n) := by unfold oneS wayC; rw [List.map_map]; rfl
    rw [← rgm, out] at lc
    have rg : (-1000000 : Int) ≤ d ∧ (d : Int) ≤ 16777216 := by omega
    have kd : (rgN 0 d).length ≤ LINE := by unfold rgN; rw [List.length_map, List.length_range]; exact lE _ (by omega)
    have wl : (wayC d n).length = d := by unfold wayC; rw [List.length_map, List.length_range]
    have jo := join_step (go := gC (.str z_)) (ge := gLc [3] (giRg1 (gaCons (gVar 1) gaNil)) (gtName [] 3) gYes ce_node_text_1) (δ := [some (false, nd d n), some (false, PyData.int (d)), some (false, PyData.int (n)), none]) (δ1 := [some (false, nd d n), some (false, PyData.int (d)), some (false, PyData.int (n)), none]) (δ2 := [some (false, nd d n), some (false, PyData.int (d)), some (false, PyData.int (n)), none]) (a := z_) (ds := oneS (wayC d n)) (f1 := false) (f2 := true) (by simp [e_tUnl, e_ext, e_ext0, e_ext1, e_ext2, e_dix, e_dix1, e_dix2, e_look, e_rev, e_rev1, e_lr1, e_lr11, e_isE1, e_isE2, e_isE3, e_isE4, e_isE5, e_isE6, e_try, e_try1, e_try2, e_eqAS, e_neAS, e_eqAI, e_neAI, e_bind_ok, e_bind_exc, e_bind_stk, e_var, e_var1, e_var2, e_move, e_move1, e_move2, e_C, e_fin1, e_bin, e_bin1, e_bin2, e_chain, e_chain1, e_chain2, e_chain3, e_chain4, e_chain5, e_if, e_if1, e_if2, e_tv, e_tv1, e_notT, e_notT1, e_andT, e_andT1, e_andT2, e_orT, e_orT1, e_orT2, e_andV, e_andV1, e_andV2, e_orV, e_orV1, e_orV2, e_notV, e_notV1, e_aNil, e_aCons, e_aCons1, e_aCons2, e_star, e_star1, e_star2, e_star3, e_lst, e_lst1, e_tup, e_tup1, e_call, e_call1, e_slot, e_slot1, e_sb, e_sb0, e_sb1, e_sb2, e_sb3, e_bs, e_bs1, e_bs2, e_lenV, e_lenV1, e_un, e_un1, e_def, e_def1, e_def2, e_def3, e_fix0, e_fix1, e_fix2, e_def4, e_def0, e_def01, e_jNil, e_jVal, e_jVal1, e_j2, e_jIo, e_jIo1, e_itD0, e_itD1, e_itD2, e_itD3, e_itJ0, e_itJ1, e_itJ2, e_itP0, e_itP1, e_itP2, e_setMany0, e_setMany1, e_nodup0, e_nodup1, e_noPart, e_part, e_part1, e_slice, e_slice1, e_slice2, e_slice3, e_lstRg, e_lstRg1, e_lstRg2, e_iSeq, e_iSeq1, e_iSeq2, e_iEn, e_iEn1, e_iEn2, e_iR1, e_iR11, e_iR2, e_iR21, e_yes, e_lc, e_lc1, e_lc2, e_wipe0, e_wipe1, e_back0, e_back1, e_back2, e_noneOwn0, e_noneOwn1, e_noneOwn2, e_noneOwn3, e_noneOwn4, e_name, e_set, e_tNil, e_tCons, e_tCons1, e_tTup, e_seq, e_seq1, e_seq2, e_seq3, e_seq4, e_seq5, e_next, e_break, e_cont, e_expr, e_expr1, e_ret, e_ret1, e_sIf, e_sIf1, e_sIf2, e_asg, e_asg1, e_asg2, e_aug, e_aug0, e_aug1, e_aug2, e_aug3, e_par, e_par1, e_par2, e_app, e_app0, e_app1, e_app2, e_setIx, e_setIx0, e_setIx1, e_setIx2, e_setIx3, e_setIx4, e_match, e_match1, e_mCase, e_mAny, e_raise, e_for, e_body, e_body1, e_body2, e_body3, e_body4, e_body5, e_outs0, e_outs1, e_outs2, e_start0, e_start1, e_addI, e_addL, e_addI2, e_sub, e_cmp, e_eqI, e_neI, e_eqB, e_isN0, e_isN1, e_isN2, e_isN3, e_notN0, e_notN1, e_notN2, e_notN3, e_int, e_intB, e_max, e_min, e_neg, e_bits, e_lenL, e_lenT, e_lenS, e_ixL, e_ixT, e_ixS, e_at0, e_at1, e_at2, e_map, e_lstOf, e_lstOfS, e_seqOf, e_seqOfT, e_seqOfS, e_isiIB, e_isiII, e_isiTT, e_isiLL]) (by
      generalize nd d n = ND at *
      generalize oneS (wayC d n) = OS at *
      simp [e_tUnl, e_ext, e_ext0, e_ext1, e_ext2, e_dix, e_dix1, e_dix2, e_look, e_rev, e_rev1, e_lr1, e_lr11, e_isE1, e_isE2, e_isE3, e_isE4, e_isE5, e_isE6, e_try, e_try1, e_try2, e_eqAS, e_neAS, e_eqAI, e_neAI, e_bind_ok, e_bind_exc, e_bind_stk, e_var, e_var1, e_var2, e_move, e_move1, e_move2, e_C, e_fin1, e_bin, e_bin1, e_bin2, e_chain, e_chain1, e_chain2, e_chain3, e_chain4, e_chain5, e_if, e_if1, e_if2, e_tv, e_tv1, e_notT, e_notT1, e_andT, e_andT1, e_andT2, e_orT, e_orT1, e_orT2, e_andV, e_andV1, e_andV2, e_orV, e_orV1, e_orV2, e_notV, e_notV1, e_aNil, e_aCons, e_aCons1, e_aCons2, e_star, e_star1, e_star2, e_star3, e_lst, e_lst1, e_tup, e_tup1, e_call, e_call1, e_slot, e_slot1, e_sb, e_sb0, e_sb1, e_sb2, e_sb3, e_bs, e_bs1, e_bs2, e_lenV, e_lenV1, e_un, e_un1, e_def, e_def1, e_def2, e_def3, e_fix0, e_fix1, e_fix2, e_def4, e_def0, e_def01, e_jNil, e_jVal, e_jVal1, e_j2, e_jIo, e_jIo1, e_itD0, e_itD1, e_itD2, e_itD3, e_itJ0, e_itJ1, e_itJ2, e_itP0, e_itP1, e_itP2, e_setMany0, e_setMany1, e_nodup0, e_nodup1, e_noPart, e_part, e_part1, e_slice, e_slice1, e_slice2, e_slice3, e_lstRg, e_lstRg1, e_lstRg2, e_iSeq, e_iSeq1, e_iSeq2, e_iEn, e_iEn1, e_iEn2, e_iR1, e_iR11, e_iR2, e_iR21, e_yes, e_lc, e_lc1, e_lc2, e_wipe0, e_wipe1, e_back0, e_back1, e_back2, e_noneOwn0, e_noneOwn1, e_noneOwn2, e_noneOwn3, e_noneOwn4, e_name, e_set, e_tNil, e_tCons, e_tCons1, e_tTup, e_seq, e_seq1, e_seq2, e_seq3, e_seq4, e_seq5, e_next, e_break, e_cont, e_expr, e_expr1, e_ret, e_ret1, e_sIf, e_sIf1, e_sIf2, e_asg, e_asg1, e_asg2, e_aug, e_aug0, e_aug1, e_aug2, e_aug3, e_par, e_par1, e_par2, e_app, e_app0, e_app1, e_app2, e_setIx, e_setIx0, e_setIx1, e_setIx2, e_setIx3, e_setIx4, e_match, e_match1, e_mCase, e_mAny, e_raise, e_for, e_body, e_body1, e_body2, e_body3, e_body4, e_body5, e_outs0, e_outs1, e_outs2, e_start0, e_start1, e_addI, e_addL, e_addI2, e_sub, e_cmp, e_eqI, e_neI, e_eqB, e_isN0, e_isN1, e_isN2, e_isN3, e_notN0, e_notN1, e_notN2, e_notN3, e_int, e_intB, e_max, e_min, e_neg, e_bits, e_lenL, e_lenT, e_lenS, e_ixL, e_ixT, e_ixS, e_at0, e_at1, e_at2, e_map, e_lstOf, e_lstOfS, e_seqOf, e_seqOfT, e_seqOfS, e_isiIB, e_isiII, e_isiTT, e_isiLL, rg, kd, lc]) (oneS_strs _) (by
      rw [sum_ones, List.length_map, wl]
      show d + d * 0 ≤ _
      omega)
    rw [join_one] at jo
    have e : wS d n = ⟨(wayC d n).toArray⟩ := by unfold wS wdC; rw [if_neg c]
    rw [e]
    generalize (⟨(wayC d n).toArray⟩ : Str) = WS at *
    unfold nd at *
    simp [m_node_text, b_node_text, e_tUnl, e_ext, e_ext0, e_ext1, e_ext2, e_dix, e_dix1, e_dix2, e_look, e_rev, e_rev1, e_lr1, e_lr11, e_isE1, e_isE2, e_isE3, e_isE4, e_isE5, e_isE6, e_try, e_try1, e_try2, e_eqAS, e_neAS, e_eqAI, e_neAI, e_bind_ok, e_bind_exc, e_bind_stk, e_var, e_var1, e_var2, e_move, e_move1, e_move2, e_C, e_fin1, e_bin, e_bin1, e_bin2, e_chain, e_chain1, e_chain2, e_chain3, e_chain4, e_chain5, e_if, e_if1, e_if2, e_tv, e_tv1, e_notT, e_notT1, e_andT, e_andT1, e_andT2, e_orT, e_orT1, e_orT2, e_andV, e_andV1, e_andV2, e_orV, e_orV1, e_orV2, e_notV, e_notV1, e_aNil, e_aCons, e_aCons1, e_aCons2, e_star, e_star1, e_star2, e_star3, e_lst, e_lst1, e_tup, e_tup1, e_call, e_call1, e_slot, e_slot1, e_sb, e_sb0, e_sb1, e_sb2, e_sb3, e_bs, e_bs1, e_bs2, e_lenV, e_lenV1, e_un, e_un1, e_def, e_def1, e_def2, e_def3, e_fix0, e_fix1, e_fix2, e_def4, e_def0, e_def01, e_jNil, e_jVal, e_jVal1, e_j2, e_jIo, e_jIo1, e_itD0, e_itD1, e_itD2, e_itD3, e_itJ0, e_itJ1, e_itJ2, e_itP0, e_itP1, e_itP2, e_setMany0, e_setMany1, e_nodup0, e_nodup1, e_noPart, e_part, e_part1, e_slice, e_slice1, e_slice2, e_slice3, e_lstRg, e_lstRg1, e_lstRg2, e_iSeq, e_iSeq1, e_iSeq2, e_iEn, e_iEn1, e_iEn2, e_iR1, e_iR11, e_iR2, e_iR21, e_yes, e_lc, e_lc1, e_lc2, e_wipe0, e_wipe1, e_back0, e_back1, e_back2, e_noneOwn0, e_noneOwn1, e_noneOwn2, e_noneOwn3, e_noneOwn4, e_name, e_set, e_tNil, e_tCons, e_tCons1, e_tTup, e_seq, e_seq1, e_seq2, e_seq3, e_seq4, e_seq5, e_next, e_break, e_cont, e_expr, e_expr1, e_ret, e_ret1, e_sIf, e_sIf1, e_sIf2, e_asg, e_asg1, e_asg2, e_aug, e_aug0, e_aug1, e_aug2, e_aug3, e_par, e_par1, e_par2, e_app, e_app0, e_app1, e_app2, e_setIx, e_setIx0, e_setIx1, e_setIx2, e_setIx3, e_setIx4, e_match, e_match1, e_mCase, e_mAny, e_raise, e_for, e_body, e_body1, e_body2, e_body3, e_body4, e_body5, e_outs0, e_outs1, e_outs2, e_start0, e_start1, e_addI, e_addL, e_addI2, e_sub, e_cmp, e_eqI, e_neI, e_eqB, e_isN0, e_isN1, e_isN2, e_isN3, e_notN0, e_notN1, e_notN2, e_notN3, e_int, e_intB, e_max, e_min, e_neg, e_bits, e_lenL, e_lenT, e_lenS, e_ixL, e_ixT, e_ixS, e_at0, e_at1, e_at2, e_map, e_lstOf, e_lstOfS, e_seqOf, e_seqOfT, e_seqOfS, e_isiIB, e_isiII, e_isiTT, e_isiLL, c', jo, -e_lc]
end SM
namespace SM
open PySem PySem.Spec DL
open PyProof.Rows hiding St
theorem wayC_len (d n : Nat) : (wayC d n).length = d := by unfold wayC; rw [List.length_map, List.length_range]
theorem wayC_mem {d n c : Nat} (h : c ∈ wayC d n) : c = 76 ∨ c = 82 := by
  obtain ⟨i, _, rfl⟩ := List.mem_map.mp h
  unfold sgn
  split
  · exact .inr rfl
  · exact .inl rfl
theorem wdC_len (d n : Nat) : 1 ≤ (wdC d n).length ∧ (wdC d n).length ≤ d + 1 := by
  unfold wdC
  by_cases c : d = 0
  · rw [if_pos c]; simp
  · rw [if_neg c, wayC_len]; omega
theorem wdC_no (d n : Nat) : 32 ∉ wdC d n := fun h => by
  unfold wdC at h
  by_cases c : d = 0
  · rw [if_pos c] at h; simp at h
  · rw [if_neg c] at h
    have := wayC_mem h
    omega
theorem half_bt2 (n a : Nat) : n / 2 ^ a = 2 * (n / 2 ^ (a + 1)) + bt n a := by
  rw [Nat.pow_succ, ← Nat.div_div_eq_div_mul, bt_def]
  omega
theorem all_true (l : List Nat) : dAll [.list (l.map fun _ => PyData.bool true)] = some (.bool true, false) := by
  have b : boolsD (l.map fun _ => PyData.bool true) = some (l.map fun _ => true) := by
    induction l with
    | nil => rfl
    | cons a r ih =>
      show (boolsD (r.map fun _ => PyData.bool true)).map (true :: ·) = _
      rw [ih]
      rfl
  unfold dAll
  dsimp only
  rw [b]
  show some (PyData.bool ((l.map fun _ => true).all id), false) = _
  have : (l.map fun _ => true).all id = true := by simp
  rw [this]
theorem node_in_ok (d n : Nat) (hd : d < 100) (hn : n < 2 ^ d) : m_node_in [.str (wS d n)] = .ok (nd d n, false) [] := by
  by_cases c : d = 0
  · subst c
    have n0 : n = 0 := by
      have : n < 1 := hn
      omega
    subst n0
    have e : wS 0 0 = z_h336d5ebc := rfl
    have l2 := l2
    rw [e]
    simp [m_node_in, b_node_in, nd, e_tUnl, e_ext, e_ext0, e_ext1, e_ext2, e_dix, e_dix1, e_dix2, e_look, e_rev, e_rev1, e_lr1, e_lr11, e_isE1, e_isE2, e_isE3, e_isE4, e_isE5, e_isE6, e_try, e_try1, e_try2, e_eqAS, e_neAS, e_eqAI, e_neAI, e_bind_ok, e_bind_exc, e_bind_stk, e_var, e_var1, e_var2, e_move, e_move1, e_move2, e_C, e_fin1, e_bin, e_bin1, e_bin2, e_chain, e_chain1, e_chain2, e_chain3, e_chain4, e_chain5, e_if, e_if1, e_if2, e_tv, e_tv1, e_notT, e_notT1, e_andT, e_andT1, e_andT2, e_orT, e_orT1, e_orT2, e_andV, e_andV1, e_andV2, e_orV, e_orV1, e_orV2, e_notV, e_notV1, e_aNil, e_aCons, e_aCons1, e_aCons2, e_star, e_star1, e_star2, e_star3, e_lst, e_lst1, e_tup, e_tup1, e_call, e_call1, e_slot, e_slot1, e_sb, e_sb0, e_sb1, e_sb2, e_sb3, e_bs, e_bs1, e_bs2, e_lenV, e_lenV1, e_un, e_un1, e_def, e_def1, e_def2, e_def3, e_fix0, e_fix1, e_fix2, e_def4, e_def0, e_def01, e_jNil, e_jVal, e_jVal1, e_j2, e_jIo, e_jIo1, e_itD0, e_itD1, e_itD2, e_itD3, e_itJ0, e_itJ1, e_itJ2, e_itP0, e_itP1, e_itP2, e_setMany0, e_setMany1, e_nodup0, e_nodup1, e_noPart, e_part, e_part1, e_slice, e_slice1, e_slice2, e_slice3, e_lstRg, e_lstRg1, e_lstRg2, e_iSeq, e_iSeq1, e_iSeq2, e_iEn, e_iEn1, e_iEn2, e_iR1, e_iR11, e_iR2, e_iR21, e_yes, e_lc, e_lc1, e_lc2, e_wipe0, e_wipe1, e_back0, e_back1, e_back2, e_noneOwn0, e_noneOwn1, e_noneOwn2, e_noneOwn3, e_noneOwn4, e_name, e_set, e_tNil, e_tCons, e_tCons1, e_tTup, e_seq, e_seq1, e_seq2, e_seq3, e_seq4, e_seq5, e_next, e_break, e_cont, e_expr, e_expr1, e_ret, e_ret1, e_sIf, e_sIf1, e_sIf2, e_asg, e_asg1, e_asg2, e_aug, e_aug0, e_aug1, e_aug2, e_aug3, e_par, e_par1, e_par2, e_app, e_app0, e_app1, e_app2, e_setIx, e_setIx0, e_setIx1, e_setIx2, e_setIx3, e_setIx4, e_match, e_match1, e_mCase, e_mAny, e_raise, e_for, e_body, e_body1, e_body2, e_body3, e_body4, e_body5, e_outs0, e_outs1, e_outs2, e_start0, e_start1, e_addI, e_addL, e_addI2, e_sub, e_cmp, e_eqI, e_neI, e_eqB, e_isN0, e_isN1, e_isN2, e_isN3, e_notN0, e_notN1, e_notN2, e_notN3, e_int, e_intB, e_max, e_min, e_neg, e_bits, e_lenL, e_lenT, e_lenS, e_ixL, e_ixT, e_ixS, e_at0, e_at1, e_at2, e_map, e_lstOf, e_lstOfS, e_seqOf, e_seqOfT, e_seqOfS, e_isiIB, e_isiII, e_isiTT, e_isiLL, l2]
  · obtain ⟨W, hW⟩ : ∃ W, W = wS d n := ⟨_, rfl⟩
    have tlW : W.cps.toList = wayC d n := by
      rw [hW]
      show wdC d n = _
      unfold wdC
      rw [if_neg c]
    have wl := wayC_len d n
    have lenW : W.length = d := by
      show W.cps.size = _
      rw [← Array.length_toList, tlW, wl]
    have sg : signsD W = oneS (wayC d n) := by unfold signsD oneS; rw [tlW]
    have ne1 : ¬ W = z_h336d5ebc := fun z => by
      rw [z] at tlW
      have : 45 ∈ wayC d n := by rw [← tlW]; simp [z_h336d5ebc]
      have := wayC_mem this
      omega
    have ne2 : ¬ W = z_ := fun z => by
      rw [z] at lenW
      exact c lenW.symm
    rw [← hW]
    have dl : dLen [.str W] = some (.int (d : Int), false) := by
      show (if W.length ≤ LINE then some (PyData.int (W.length : Nat), false) else none) = _
      rw [lenW, if_pos (show d ≤ LINE by show d ≤ 16777216; omega)]
    have c100 : ¬ (100 : Int) ≤ (d : Int) := by omega
    have lc := lcD_filmap (vs := [2]) (tgt := gtName [] 2) (gt := gYes) (ge := ce_node_in_1) (δ := [some (false, PyData.str (W)), none, none]) (fun c : Nat => PyData.str ⟨#[c]⟩) (fun _ => true) (fun _ => PyData.bool true) (ps := wayC d n) [] (by
      intro c hc
      have ins : dInS (.str ⟨#[c]⟩) (.str z_LR) = some (.bool true, false) := by
        rcases wayC_mem hc with rfl | rfl <;> exact id rfl
      refine ⟨[some (false, PyData.str (W)), none, some (false, PyData.str ((⟨#[c]⟩ : Str)))], [some (false, PyData.str (W)), none, some (false, PyData.str ((⟨#[c]⟩ : Str)))], by simp [e_tUnl, e_ext, e_ext0, e_ext1, e_ext2, e_dix, e_dix1, e_dix2, e_look, e_rev, e_rev1, e_lr1, e_lr11, e_isE1, e_isE2, e_isE3, e_isE4, e_isE5, e_isE6, e_try, e_try1, e_try2, e_eqAS, e_neAS, e_eqAI, e_neAI, e_bind_ok, e_bind_exc, e_bind_stk, e_var, e_var1, e_var2, e_move, e_move1, e_move2, e_C, e_fin1, e_bin, e_bin1, e_bin2, e_chain, e_chain1, e_chain2, e_chain3, e_chain4, e_chain5, e_if, e_if1, e_if2, e_tv, e_tv1, e_notT, e_notT1, e_andT, e_andT1, e_andT2, e_orT, e_orT1, e_orT2, e_andV, e_andV1, e_andV2, e_orV, e_orV1, e_orV2, e_notV, e_notV1, e_aNil, e_aCons, e_aCons1, e_aCons2, e_star, e_star1, e_star2, e_star3, e_lst, e_lst1, e_tup, e_tup1, e_call, e_call1, e_slot, e_slot1, e_sb, e_sb0, e_sb1, e_sb2, e_sb3, e_bs, e_bs1, e_bs2, e_lenV, e_lenV1, e_un, e_un1, e_def, e_def1, e_def2, e_def3, e_fix0, e_fix1, e_fix2, e_def4, e_def0, e_def01, e_jNil, e_jVal, e_jVal1, e_j2, e_jIo, e_jIo1, e_itD0, e_itD1, e_itD2, e_itD3, e_itJ0, e_itJ1, e_itJ2, e_itP0, e_itP1, e_itP2, e_setMany0, e_setMany1, e_nodup0, e_nodup1, e_noPart, e_part, e_part1, e_slice, e_slice1, e_slice2, e_slice3, e_lstRg, e_lstRg1, e_lstRg2, e_iSeq, e_iSeq1, e_iSeq2, e_iEn, e_iEn1, e_iEn2, e_iR1, e_iR11, e_iR2, e_iR21, e_yes, e_lc, e_lc1, e_lc2, e_wipe0, e_wipe1, e_back0, e_back1, e_back2, e_noneOwn0, e_noneOwn1, e_noneOwn2, e_noneOwn3, e_noneOwn4, e_name, e_set, e_tNil, e_tCons, e_tCons1, e_tTup, e_seq, e_seq1, e_seq2, e_seq3, e_seq4, e_seq5, e_next, e_break, e_cont, e_expr, e_expr1, e_ret, e_ret1, e_sIf, e_sIf1, e_sIf2, e_asg, e_asg1, e_asg2, e_aug, e_aug0, e_aug1, e_aug2, e_aug3, e_par, e_par1, e_par2, e_app, e_app0, e_app1, e_app2, e_setIx, e_setIx0, e_setIx1, e_setIx2, e_setIx3, e_setIx4, e_match, e_match1, e_mCase, e_mAny, e_raise, e_for, e_body, e_body1, e_body2, e_body3, e_body4, e_body5, e_outs0, e_outs1, e_outs2, e_start0, e_start1, e_addI, e_addL, e_addI2, e_sub, e_cmp, e_eqI, e_neI, e_eqB, e_isN0, e_isN1, e_isN2, e_isN3, e_notN0, e_notN1, e_notN2, e_notN3, e_int, e_intB, e_max, e_min, e_neg, e_bits, e_lenL, e_lenT, e_lenS, e_ixL, e_ixT, e_ixS, e_at0, e_at1, e_at2, e_map, e_lstOf, e_lstOfS, e_seqOf, e_seqOfT, e_seqOfS, e_isiIB, e_isiII, e_isiTT, e_isiLL], by simp [e_tUnl, e_ext, e_ext0, e_ext1, e_ext2, e_dix, e_dix1, e_dix2, e_look, e_rev, e_rev1, e_lr1, e_lr11, e_isE1, e_isE2, e_isE3, e_isE4, e_isE5, e_isE6, e_try, e_try1, e_try2, e_eqAS, e_neAS, e_eqAI, e_neAI, e_bind_ok, e_bind_exc, e_bind_stk, e_var, e_var1, e_var2, e_move, e_move1, e_move2, e_C, e_fin1, e_bin, e_bin1, e_bin2, e_chain, e_chain1, e_chain2, e_chain3, e_chain4, e_chain5, e_if, e_if1, e_if2, e_tv, e_tv1, e_notT, e_notT1, e_andT, e_andT1, e_andT2, e_orT, e_orT1, e_orT2, e_andV, e_andV1, e_andV2, e_orV, e_orV1, e_orV2, e_notV, e_notV1, e_aNil, e_aCons, e_aCons1, e_aCons2, e_star, e_star1, e_star2, e_star3, e_lst, e_lst1, e_tup, e_tup1, e_call, e_call1, e_slot, e_slot1, e_sb, e_sb0, e_sb1, e_sb2, e_sb3, e_bs, e_bs1, e_bs2, e_lenV, e_lenV1, e_un, e_un1, e_def, e_def1, e_def2, e_def3, e_fix0, e_fix1, e_fix2, e_def4, e_def0, e_def01, e_jNil, e_jVal, e_jVal1, e_j2, e_jIo, e_jIo1, e_itD0, e_itD1, e_itD2, e_itD3, e_itJ0, e_itJ1, e_itJ2, e_itP0, e_itP1, e_itP2, e_setMany0, e_setMany1, e_nodup0, e_nodup1, e_noPart, e_part, e_part1, e_slice, e_slice1, e_slice2, e_slice3, e_lstRg, e_lstRg1, e_lstRg2, e_iSeq, e_iSeq1, e_iSeq2, e_iEn, e_iEn1, e_iEn2, e_iR1, e_iR11, e_iR2, e_iR21, e_yes, e_lc, e_lc1, e_lc2, e_wipe0, e_wipe1, e_back0, e_back1, e_back2, e_noneOwn0, e_noneOwn1, e_noneOwn2, e_noneOwn3, e_noneOwn4, e_name, e_set, e_tNil, e_tCons, e_tCons1, e_tTup, e_seq, e_seq1, e_seq2, e_seq3, e_seq4, e_seq5, e_next, e_break, e_cont, e_expr, e_expr1, e_ret, e_ret1, e_sIf, e_sIf1, e_sIf2, e_asg, e_asg1, e_asg2, e_aug, e_aug0, e_aug1, e_aug2, e_aug3, e_par, e_par1, e_par2, e_app, e_app0, e_app1, e_app2, e_setIx, e_setIx0, e_setIx1, e_setIx2, e_setIx3, e_setIx4, e_match, e_match1, e_mCase, e_mAny, e_raise, e_for, e_body, e_body1, e_body2, e_body3, e_body4, e_body5, e_outs0, e_outs1, e_outs2, e_start0, e_start1, e_addI, e_addL, e_addI2, e_sub, e_cmp, e_eqI, e_neI, e_eqB, e_isN0, e_isN1, e_isN2, e_isN3, e_notN0, e_notN1, e_notN2, e_notN3, e_int, e_intB, e_max, e_min, e_neg, e_bits, e_lenL, e_lenT, e_lenS, e_ixL, e_ixT, e_ixS, e_at0, e_at1, e_at2, e_map, e_lstOf, e_lstOfS, e_seqOf, e_seqOfT, e_seqOfS, e_isiIB, e_isiII, e_isiTT, e_isiLL], fun z => absurd z (by decide), fun _ => ⟨[some (false, PyData.str (W)), none, some (false, PyData.str ((⟨#[c]⟩ : Str)))], false, by simp [ce_node_in_1, e_tUnl, e_ext, e_ext0, e_ext1, e_ext2, e_dix, e_dix1, e_dix2, e_look, e_rev, e_rev1, e_lr1, e_lr11, e_isE1, e_isE2, e_isE3, e_isE4, e_isE5, e_isE6, e_try, e_try1, e_try2, e_eqAS, e_neAS, e_eqAI, e_neAI, e_bind_ok, e_bind_exc, e_bind_stk, e_var, e_var1, e_var2, e_move, e_move1, e_move2, e_C, e_fin1, e_bin, e_bin1, e_bin2, e_chain, e_chain1, e_chain2, e_chain3, e_chain4, e_chain5, e_if, e_if1, e_if2, e_tv, e_tv1, e_notT, e_notT1, e_andT, e_andT1, e_andT2, e_orT, e_orT1, e_orT2, e_andV, e_andV1, e_andV2, e_orV, e_orV1, e_orV2, e_notV, e_notV1, e_aNil, e_aCons, e_aCons1, e_aCons2, e_star, e_star1, e_star2, e_star3, e_lst, e_lst1, e_tup, e_tup1, e_call, e_call1, e_slot, e_slot1, e_sb, e_sb0, e_sb1, e_sb2, e_sb3, e_bs, e_bs1, e_bs2, e_lenV, e_lenV1, e_un, e_un1, e_def, e_def1, e_def2, e_def3, e_fix0, e_fix1, e_fix2, e_def4, e_def0, e_def01, e_jNil, e_jVal, e_jVal1, e_j2, e_jIo, e_jIo1, e_itD0, e_itD1, e_itD2, e_itD3, e_itJ0, e_itJ1, e_itJ2, e_itP0, e_itP1, e_itP2, e_setMany0, e_setMany1, e_nodup0, e_nodup1, e_noPart, e_part, e_part1, e_slice, e_slice1, e_slice2, e_slice3, e_lstRg, e_lstRg1, e_lstRg2, e_iSeq, e_iSeq1, e_iSeq2, e_iEn, e_iEn1, e_iEn2, e_iR1, e_iR11, e_iR2, e_iR21, e_yes, e_lc, e_lc1, e_lc2, e_wipe0, e_wipe1, e_back0, e_back1, e_back2, e_noneOwn0, e_noneOwn1, e_noneOwn2, e_noneOwn3, e_noneOwn4, e_name, e_set, e_tNil, e_tCons, e_tCons1, e_tTup, e_seq, e_seq1, e_seq2, e_seq3, e_seq4, e_seq5, e_next, e_break, e_cont, e_expr, e_expr1, e_ret, e_ret1, e_sIf, e_sIf1, e_sIf2, e_asg, e_asg1, e_asg2, e_aug, e_aug0, e_aug1, e_aug2, e_aug3, e_par, e_par1, e_par2, e_app, e_app0, e_app1, e_app2, e_setIx, e_setIx0, e_setIx1, e_setIx2, e_setIx3, e_setIx4, e_match, e_match1, e_mCase, e_mAny, e_raise, e_for, e_body, e_body1, e_body2, e_body3, e_body4, e_body5, e_outs0, e_outs1, e_outs2, e_start0, e_start1, e_addI, e_addL, e_addI2, e_sub, e_cmp, e_eqI, e_neI, e_eqB, e_isN0, e_isN1, e_isN2, e_isN3, e_notN0, e_notN1, e_notN2, e_notN3, e_int, e_intB, e_max, e_min, e_neg, e_bits, e_lenL, e_lenT, e_lenS, e_ixL, e_ixT, e_ixS, e_at0, e_at1, e_at2, e_map, e_lstOf, e_lstOfS, e_seqOf, e_seqOfT, e_seqOfS, e_isiIB, e_isiII, e_isiTT, e_isiLL, ins], by simp [e_tUnl, e_ext, e_ext0, e_ext1, e_ext2, e_dix, e_dix1, e_dix2, e_look, e_rev, e_rev1, e_lr1, e_lr11, e_isE1, e_isE2, e_isE3, e_isE4, e_isE5, e_isE6, e_try, e_try1, e_try2, e_eqAS, e_neAS, e_eqAI, e_neAI, e_bind_ok, e_bind_exc, e_bind_stk, e_var, e_var1, e_var2, e_move, e_move1, e_move2, e_C, e_fin1, e_bin, e_bin1, e_bin2, e_chain, e_chain1, e_chain2, e_chain3, e_chain4, e_chain5, e_if, e_if1, e_if2, e_tv, e_tv1, e_notT, e_notT1, e_andT, e_andT1, e_andT2, e_orT, e_orT1, e_orT2, e_andV, e_andV1, e_andV2, e_orV, e_orV1, e_orV2, e_notV, e_notV1, e_aNil, e_aCons, e_aCons1, e_aCons2, e_star, e_star1, e_star2, e_star3, e_lst, e_lst1, e_tup, e_tup1, e_call, e_call1, e_slot, e_slot1, e_sb, e_sb0, e_sb1, e_sb2, e_sb3, e_bs, e_bs1, e_bs2, e_lenV, e_lenV1, e_un, e_un1, e_def, e_def1, e_def2, e_def3, e_fix0, e_fix1, e_fix2, e_def4, e_def0, e_def01, e_jNil, e_jVal, e_jVal1, e_j2, e_jIo, e_jIo1, e_itD0, e_itD1, e_itD2, e_itD3, e_itJ0, e_itJ1, e_itJ2, e_itP0, e_itP1, e_itP2, e_setMany0, e_setMany1, e_nodup0, e_nodup1, e_noPart, e_part, e_part1, e_slice, e_slice1, e_slice2, e_slice3, e_lstRg, e_lstRg1, e_lstRg2, e_iSeq, e_iSeq1, e_iSeq2, e_iEn, e_iEn1, e_iEn2, e_iR1, e_iR11, e_iR2, e_iR21, e_yes, e_lc, e_lc1, e_lc2, e_wipe0, e_wipe1, e_back0, e_back1, e_back2, e_noneOwn0, e_noneOwn1, e_noneOwn2, e_noneOwn3, e_noneOwn4, e_name, e_set, e_tNil, e_tCons, e_tCons1, e_tTup, e_seq, e_seq1, e_seq2, e_seq3, e_seq4, e_seq5, e_next, e_break, e_cont, e_expr, e_expr1, e_ret, e_ret1, e_sIf, e_sIf1, e_sIf2, e_asg, e_asg1, e_asg2, e_aug, e_aug0, e_aug1, e_aug2, e_aug3, e_par, e_par1, e_par2, e_app, e_app0, e_app1, e_app2, e_setIx, e_setIx0, e_setIx1, e_setIx2, e_setIx3, e_setIx4, e_match, e_match1, e_mCase, e_mAny, e_raise, e_for, e_body, e_body1, e_body2, e_body3, e_body4, e_body5, e_outs0, e_outs1, e_outs2, e_start0, e_start1, e_addI, e_addL, e_addI2, e_sub, e_cmp, e_eqI, e_neI, e_eqB, e_isN0, e_isN1, e_isN2, e_isN3, e_notN0, e_notN1, e_notN2, e_notN3, e_int, e_intB, e_max, e_min, e_neg, e_bits, e_lenL, e_lenT, e_lenS, e_ixL, e_ixT, e_ixS, e_at0, e_at1, e_at2, e_map, e_lstOf, e_lstOfS, e_seqOf, e_seqOfT, e_seqOfS, e_isiIB, e_isiII, e_isiTT, e_isiLL]⟩⟩)
    rw [List.nil_append, List.filter_eq_self.mpr (show ∀ a ∈ wayC d n, (fun _ : Nat => true) a = true from fun _ _ => rfl)] at lc
    have lc : lcD [2] (gtName [] 2) gYes ce_node_in_1 (oneS (wayC d n)) [] [some (false, PyData.str (W)), none, none] = .ok ((wayC d n).map fun _ => PyData.bool true) [some (false, PyData.str (W)), none, none] := lc
    have al := all_true (wayC d n)
    have kl : ((wayC d n).map fun _ => PyData.bool true).length ≤ LINE := by rw [List.length_map, wl]; exact lE _ (by omega)
    have kl2 : (oneS (wayC d n)).length ≤ LINE := by unfold oneS; rw [List.length_map, wl]; exact lE _ (by omega)
    have p100 : 2 ^ d ≤ 2 ^ 100 := Nat.pow_le_pow_right (by omega) (by omega)
    obtain ⟨δ', i1, x2, rfl⟩ := forD_inv (tgt := gtName [] 2) (body := lb_node_in_1) (ds := oneS (wayC d n)) (δ := [some (false, PyData.str (W)), some (false, PyData.int (0)), none])
      (fun i δ => ∃ x2, δ = [some (false, PyData.str (W)), some (false, PyData.int ((n / 2 ^ (d - i) : Nat))), x2]) ⟨none, by rw [Nat.sub_zero, Nat.div_eq_of_lt hn]; rfl⟩ (by
        rintro i x δ hx ⟨x2, rfl⟩
        unfold oneS wayC at hx
        rw [List.getElem?_map, List.getElem?_map] at hx
        obtain ⟨y, hy, rfl⟩ := Option.map_eq_some_iff.mp hx
        obtain ⟨j, hj, rfl⟩ := Option.map_eq_some_iff.mp hy
        obtain ⟨h3, h4⟩ := List.getElem?_eq_some_iff.mp hj
        simp only [List.getElem_range] at h4
        subst h4
        simp only [List.length_range] at h3
        have hb := half_bt2 n (d - 1 - i)
        rw [show d - 1 - i + 1 = d - i by omega] at hb
        have lt : n / 2 ^ (d - i) ≤ n := Nat.div_le_self _ _
        have mu : dMul (.int 2) (.int ((n / 2 ^ (d - i) : Nat) : Int)) = some (.int (2 * ((n / 2 ^ (d - i) : Nat) : Int)), false) := dMul_ok 3 101 (by decide) (by omega) (by decide)
        rw [show d - (i + 1) = d - 1 - i by omega, hb]
        have b01 : bt n (d - 1 - i) = 0 ∨ bt n (d - 1 - i) = 1 := by unfold bt; omega
        generalize n / 2 ^ (d - i) = Q at *
        rcases b01 with z | z
        · rw [z]
          refine ⟨[some (false, PyData.str (W)), some (false, PyData.int (Q)), some (false, PyData.str ((⟨#[sgn 0]⟩ : Str)))], by simp [e_tUnl, e_ext, e_ext0, e_ext1, e_ext2, e_dix, e_dix1, e_dix2, e_look, e_rev, e_rev1, e_lr1, e_lr11, e_isE1, e_isE2, e_isE3, e_isE4, e_isE5, e_isE6, e_try, e_try1, e_try2, e_eqAS, e_neAS, e_eqAI, e_neAI, e_bind_ok, e_bind_exc, e_bind_stk, e_var, e_var1, e_var2, e_move, e_move1, e_move2, e_C, e_fin1, e_bin, e_bin1, e_bin2, e_chain, e_chain1, e_chain2, e_chain3, e_chain4, e_chain5, e_if, e_if1, e_if2, e_tv, e_tv1, e_notT, e_notT1, e_andT, e_andT1, e_andT2, e_orT, e_orT1, e_orT2, e_andV, e_andV1, e_andV2, e_orV, e_orV1, e_orV2, e_notV, e_notV1, e_aNil, e_aCons, e_aCons1, e_aCons2, e_star, e_star1, e_star2, e_star3, e_lst, e_lst1, e_tup, e_tup1, e_call, e_call1, e_slot, e_slot1, e_sb, e_sb0, e_sb1, e_sb2, e_sb3, e_bs, e_bs1, e_bs2, e_lenV, e_lenV1, e_un, e_un1, e_def, e_def1, e_def2, e_def3, e_fix0, e_fix1, e_fix2, e_def4, e_def0, e_def01, e_jNil, e_jVal, e_jVal1, e_j2, e_jIo, e_jIo1, e_itD0, e_itD1, e_itD2, e_itD3, e_itJ0, e_itJ1, e_itJ2, e_itP0, e_itP1, e_itP2, e_setMany0, e_setMany1, e_nodup0, e_nodup1, e_noPart, e_part, e_part1, e_slice, e_slice1, e_slice2, e_slice3, e_lstRg, e_lstRg1, e_lstRg2, e_iSeq, e_iSeq1, e_iSeq2, e_iEn, e_iEn1, e_iEn2, e_iR1, e_iR11, e_iR2, e_iR21, e_yes, e_lc, e_lc1, e_lc2, e_wipe0, e_wipe1, e_back0, e_back1, e_back2, e_noneOwn0, e_noneOwn1, e_noneOwn2, e_noneOwn3, e_noneOwn4, e_name, e_set, e_tNil, e_tCons, e_tCons1, e_tTup, e_seq, e_seq1, e_seq2, e_seq3, e_seq4, e_seq5, e_next, e_break, e_cont, e_expr, e_expr1, e_ret, e_ret1, e_sIf, e_sIf1, e_sIf2, e_asg, e_asg1, e_asg2, e_aug, e_aug0, e_aug1, e_aug2, e_aug3, e_par, e_par1, e_par2, e_app, e_app0, e_app1, e_app2, e_setIx, e_setIx0, e_setIx1, e_setIx2, e_setIx3, e_setIx4, e_match, e_match1, e_mCase, e_mAny, e_raise, e_for, e_body, e_body1, e_body2, e_body3, e_body4, e_body5, e_outs0, e_outs1, e_outs2, e_start0, e_start1, e_addI, e_addL, e_addI2, e_sub, e_cmp, e_eqI, e_neI, e_eqB, e_isN0, e_isN1, e_isN2, e_isN3, e_notN0, e_notN1, e_notN2, e_notN3, e_int, e_intB, e_max, e_min, e_neg, e_bits, e_lenL, e_lenT, e_lenS, e_ixL, e_ixT, e_ixS, e_at0, e_at1, e_at2, e_map, e_lstOf, e_lstOfS, e_seqOf, e_seqOfT, e_seqOfS, e_isiIB, e_isiII, e_isiTT, e_isiLL], [some (false, PyData.str (W)), some (false, PyData.int ((2 * Q + 0 : Nat))), some (false, PyData.str ((⟨#[sgn 0]⟩ : Str)))], ?_, _, rfl⟩
          have e : dEqA (.str ⟨#[sgn 0]⟩) (.str z_R) = some (.bool false, false) := id rfl
          generalize (⟨#[sgn 0]⟩ : Str) = SG at *
          simp [lb_node_in_1, e_tUnl, e_ext, e_ext0, e_ext1, e_ext2, e_dix, e_dix1, e_dix2, e_look, e_rev, e_rev1, e_lr1, e_lr11, e_isE1, e_isE2, e_isE3, e_isE4, e_isE5, e_isE6, e_try, e_try1, e_try2, e_eqAS, e_neAS, e_eqAI, e_neAI, e_bind_ok, e_bind_exc, e_bind_stk, e_var, e_var1, e_var2, e_move, e_move1, e_move2, e_C, e_fin1, e_bin, e_bin1, e_bin2, e_chain, e_chain1, e_chain2, e_chain3, e_chain4, e_chain5, e_if, e_if1, e_if2, e_tv, e_tv1, e_notT, e_notT1, e_andT, e_andT1, e_andT2, e_orT, e_orT1, e_orT2, e_andV, e_andV1, e_andV2, e_orV, e_orV1, e_orV2, e_notV, e_notV1, e_aNil, e_aCons, e_aCons1, e_aCons2, e_star, e_star1, e_star2, e_star3, e_lst, e_lst1, e_tup, e_tup1, e_call, e_call1, e_slot, e_slot1, e_sb, e_sb0, e_sb1, e_sb2, e_sb3, e_bs, e_bs1, e_bs2, e_lenV, e_lenV1, e_un, e_un1, e_def, e_def1, e_def2, e_def3, e_fix0, e_fix1, e_fix2, e_def4, e_def0, e_def01, e_jNil, e_jVal, e_jVal1, e_j2, e_jIo, e_jIo1, e_itD0, e_itD1, e_itD2, e_itD3, e_itJ0, e_itJ1, e_itJ2, e_itP0, e_itP1, e_itP2, e_setMany0, e_setMany1, e_nodup0, e_nodup1, e_noPart, e_part, e_part1, e_slice, e_slice1, e_slice2, e_slice3, e_lstRg, e_lstRg1, e_lstRg2, e_iSeq, e_iSeq1, e_iSeq2, e_iEn, e_iEn1, e_iEn2, e_iR1, e_iR11, e_iR2, e_iR21, e_yes, e_lc, e_lc1, e_lc2, e_wipe0, e_wipe1, e_back0, e_back1, e_back2, e_noneOwn0, e_noneOwn1, e_noneOwn2, e_noneOwn3, e_noneOwn4, e_name, e_set, e_tNil, e_tCons, e_tCons1, e_tTup, e_seq, e_seq1, e_seq2, e_seq3, e_seq4, e_seq5, e_next, e_break, e_cont, e_expr, e_expr1, e_ret, e_ret1, e_sIf, e_sIf1, e_sIf2, e_asg, e_asg1, e_asg2, e_aug, e_aug0, e_aug1, e_aug2, e_aug3, e_par, e_par1, e_par2, e_app, e_app0, e_app1, e_app2, e_setIx, e_setIx0, e_setIx1, e_setIx2, e_setIx3, e_setIx4, e_match, e_match1, e_mCase, e_mAny, e_raise, e_for, e_body, e_body1, e_body2, e_body3, e_body4, e_body5, e_outs0, e_outs1, e_outs2, e_start0, e_start1, e_addI, e_addL, e_addI2, e_sub, e_cmp, e_eqI, e_neI, e_eqB, e_isN0, e_isN1, e_isN2, e_isN3, e_notN0, e_notN1, e_notN2, e_notN3, e_int, e_intB, e_max, e_min, e_neg, e_bits, e_lenL, e_lenT, e_lenS, e_ixL, e_ixT, e_ixS, e_at0, e_at1, e_at2, e_map, e_lstOf, e_lstOfS, e_seqOf, e_seqOfT, e_seqOfS, e_isiIB, e_isiII, e_isiTT, e_isiLL, mu, e, -e_eqAS]
        · rw [z]
          refine ⟨[some (false, PyData.str (W)), some (false, PyData.int (Q)), some (false, PyData.str ((⟨#[sgn 1]⟩ : Str)))], by simp [e_tUnl, e_ext, e_ext0, e_ext1, e_ext2, e_dix, e_dix1, e_dix2, e_look, e_rev, e_rev1, e_lr1, e_lr11, e_isE1, e_isE2, e_isE3, e_isE4, e_isE5, e_isE6, e_try, e_try1, e_try2, e_eqAS, e_neAS, e_eqAI, e_neAI, e_bind_ok, e_bind_exc, e_bind_stk, e_var, e_var1, e_var2, e_move, e_move1, e_move2, e_C, e_fin1, e_bin, e_bin1, e_bin2, e_chain, e_chain1, e_chain2, e_chain3, e_chain4, e_chain5, e_if, e_if1, e_if2, e_tv, e_tv1, e_notT, e_notT1, e_andT, e_andT1, e_andT2, e_orT, e_orT1, e_orT2, e_andV, e_andV1, e_andV2, e_orV, e_orV1, e_orV2, e_notV, e_notV1, e_aNil, e_aCons, e_aCons1, e_aCons2, e_star, e_star1, e_star2, e_star3, e_lst, e_lst1, e_tup, e_tup1, e_call, e_call1, e_slot, e_slot1, e_sb, e_sb0, e_sb1, e_sb2, e_sb3, e_bs, e_bs1, e_bs2, e_lenV, e_lenV1, e_un, e_un1, e_def, e_def1, e_def2, e_def3, e_fix0, e_fix1, e_fix2, e_def4, e_def0, e_def01, e_jNil, e_jVal, e_jVal1, e_j2, e_jIo, e_jIo1, e_itD0, e_itD1, e_itD2, e_itD3, e_itJ0, e_itJ1, e_itJ2, e_itP0, e_itP1, e_itP2, e_setMany0, e_setMany1, e_nodup0, e_nodup1, e_noPart, e_part, e_part1, e_slice, e_slice1, e_slice2, e_slice3, e_lstRg, e_lstRg1, e_lstRg2, e_iSeq, e_iSeq1, e_iSeq2, e_iEn, e_iEn1, e_iEn2, e_iR1, e_iR11, e_iR2, e_iR21, e_yes, e_lc, e_lc1, e_lc2, e_wipe0, e_wipe1, e_back0, e_back1, e_back2, e_noneOwn0, e_noneOwn1, e_noneOwn2, e_noneOwn3, e_noneOwn4, e_name, e_set, e_tNil, e_tCons, e_tCons1, e_tTup, e_seq, e_seq1, e_seq2, e_seq3, e_seq4, e_seq5, e_next, e_break, e_cont, e_expr, e_expr1, e_ret, e_ret1, e_sIf, e_sIf1, e_sIf2, e_asg, e_asg1, e_asg2, e_aug, e_aug0, e_aug1, e_aug2, e_aug3, e_par, e_par1, e_par2, e_app, e_app0, e_app1, e_app2, e_setIx, e_setIx0, e_setIx1, e_setIx2, e_setIx3, e_setIx4, e_match, e_match1, e_mCase, e_mAny, e_raise, e_for, e_body, e_body1, e_body2, e_body3, e_body4, e_body5, e_outs0, e_outs1, e_outs2, e_start0, e_start1, e_addI, e_addL, e_addI2, e_sub, e_cmp, e_eqI, e_neI, e_eqB, e_isN0, e_isN1, e_isN2, e_isN3, e_notN0, e_notN1, e_notN2, e_notN3, e_int, e_intB, e_max, e_min, e_neg, e_bits, e_lenL, e_lenT, e_lenS, e_ixL, e_ixT, e_ixS, e_at0, e_at1, e_at2, e_map, e_lstOf, e_lstOfS, e_seqOf, e_seqOfT, e_seqOfS, e_isiIB, e_isiII, e_isiTT, e_isiLL], [some (false, PyData.str (W)), some (false, PyData.int ((2 * Q + 1 : Nat))), some (false, PyData.str ((⟨#[sgn 1]⟩ : Str)))], ?_, _, rfl⟩
          have e : dEqA (.str ⟨#[sgn 1]⟩) (.str z_R) = some (.bool true, false) := id rfl
          generalize (⟨#[sgn 1]⟩ : Str) = SG at *
          simp [lb_node_in_1, e_tUnl, e_ext, e_ext0, e_ext1, e_ext2, e_dix, e_dix1, e_dix2, e_look, e_rev, e_rev1, e_lr1, e_lr11, e_isE1, e_isE2, e_isE3, e_isE4, e_isE5, e_isE6, e_try, e_try1, e_try2, e_eqAS, e_neAS, e_eqAI, e_neAI, e_bind_ok, e_bind_exc, e_bind_stk, e_var, e_var1, e_var2, e_move, e_move1, e_move2, e_C, e_fin1, e_bin, e_bin1, e_bin2, e_chain, e_chain1, e_chain2, e_chain3, e_chain4, e_chain5, e_if, e_if1, e_if2, e_tv, e_tv1, e_notT, e_notT1, e_andT, e_andT1, e_andT2, e_orT, e_orT1, e_orT2, e_andV, e_andV1, e_andV2, e_orV, e_orV1, e_orV2, e_notV, e_notV1, e_aNil, e_aCons, e_aCons1, e_aCons2, e_star, e_star1, e_star2, e_star3, e_lst, e_lst1, e_tup, e_tup1, e_call, e_call1, e_slot, e_slot1, e_sb, e_sb0, e_sb1, e_sb2, e_sb3, e_bs, e_bs1, e_bs2, e_lenV, e_lenV1, e_un, e_un1, e_def, e_def1, e_def2, e_def3, e_fix0, e_fix1, e_fix2, e_def4, e_def0, e_def01, e_jNil, e_jVal, e_jVal1, e_j2, e_jIo, e_jIo1, e_itD0, e_itD1, e_itD2, e_itD3, e_itJ0, e_itJ1, e_itJ2, e_itP0, e_itP1, e_itP2, e_setMany0, e_setMany1, e_nodup0, e_nodup1, e_noPart, e_part, e_part1, e_slice, e_slice1, e_slice2, e_slice3, e_lstRg, e_lstRg1, e_lstRg2, e_iSeq, e_iSeq1, e_iSeq2, e_iEn, e_iEn1, e_iEn2, e_iR1, e_iR11, e_iR2, e_iR21, e_yes, e_lc, e_lc1, e_lc2, e_wipe0, e_wipe1, e_back0, e_back1, e_back2, e_noneOwn0, e_noneOwn1, e_noneOwn2, e_noneOwn3, e_noneOwn4, e_name, e_set, e_tNil, e_tCons, e_tCons1, e_tTup, e_seq, e_seq1, e_seq2, e_seq3, e_seq4, e_seq5, e_next, e_break, e_cont, e_expr, e_expr1, e_ret, e_ret1, e_sIf, e_sIf1, e_sIf2, e_asg, e_asg1, e_asg2, e_aug, e_aug0, e_aug1, e_aug2, e_aug3, e_par, e_par1, e_par2, e_app, e_app0, e_app1, e_app2, e_setIx, e_setIx0, e_setIx1, e_setIx2, e_setIx3, e_setIx4, e_match, e_match1, e_mCase, e_mAny, e_raise, e_for, e_body, e_body1, e_body2, e_body3, e_body4, e_body5, e_outs0, e_outs1, e_outs2, e_start0, e_start1, e_addI, e_addL, e_addI2, e_sub, e_cmp, e_eqI, e_neI, e_eqB, e_isN0, e_isN1, e_isN2, e_isN3, e_notN0, e_notN1, e_notN2, e_notN3, e_int, e_intB, e_max, e_min, e_neg, e_bits, e_lenL, e_lenT, e_lenS, e_ixL, e_ixT, e_ixS, e_at0, e_at1, e_at2, e_map, e_lstOf, e_lstOfS, e_seqOf, e_seqOfT, e_seqOfS, e_isiIB, e_isiII, e_isiTT, e_isiLL, mu, e, -e_eqAS])
    have ol : (oneS (wayC d n)).length = d := by unfold oneS; rw [List.length_map, wl]
    rw [ol, Nat.sub_self, Nat.pow_zero, Nat.div_one] at i1
    have gs : ∀ δ : Sl, giStr (gVar 0) (some (false, PyData.str (W)) :: δ) = .ok (oneS (wayC d n)) (some (false, PyData.str (W)) :: δ) := fun δ => by
      unfold giStr
      rw [e_var]
      show (DL.R.ok (PyData.str W, false) (some (false, PyData.str (W)) :: δ) : EV).bind _ = _
      rw [e_bind_ok, ← sg]
    have l2 := l2
    generalize oneS (wayC d n) = OS at *
    generalize ((wayC d n).map fun _ => PyData.bool true) = AT at *
    unfold nd
    simp [m_node_in, b_node_in, e_tUnl, e_ext, e_ext0, e_ext1, e_ext2, e_dix, e_dix1, e_dix2, e_look, e_rev, e_rev1, e_lr1, e_lr11, e_isE1, e_isE2, e_isE3, e_isE4, e_isE5, e_isE6, e_try, e_try1, e_try2, e_eqAS, e_neAS, e_eqAI, e_neAI, e_bind_ok, e_bind_exc, e_bind_stk, e_var, e_var1, e_var2, e_move, e_move1, e_move2, e_C, e_fin1, e_bin, e_bin1, e_bin2, e_chain, e_chain1, e_chain2, e_chain3, e_chain4, e_chain5, e_if, e_if1, e_if2, e_tv, e_tv1, e_notT, e_notT1, e_andT, e_andT1, e_andT2, e_orT, e_orT1, e_orT2, e_andV, e_andV1, e_andV2, e_orV, e_orV1, e_orV2, e_notV, e_notV1, e_aNil, e_aCons, e_aCons1, e_aCons2, e_star, e_star1, e_star2, e_star3, e_lst, e_lst1, e_tup, e_tup1, e_call, e_call1, e_slot, e_slot1, e_sb, e_sb0, e_sb1, e_sb2, e_sb3, e_bs, e_bs1, e_bs2, e_lenV, e_lenV1, e_un, e_un1, e_def, e_def1, e_def2, e_def3, e_fix0, e_fix1, e_fix2, e_def4, e_def0, e_def01, e_jNil, e_jVal, e_jVal1, e_j2, e_jIo, e_jIo1, e_itD0, e_itD1, e_itD2, e_itD3, e_itJ0, e_itJ1, e_itJ2, e_itP0, e_itP1, e_itP2, e_setMany0, e_setMany1, e_nodup0, e_nodup1, e_noPart, e_part, e_part1, e_slice, e_slice1, e_slice2, e_slice3, e_lstRg, e_lstRg1, e_lstRg2, e_iSeq, e_iSeq1, e_iSeq2, e_iEn, e_iEn1, e_iEn2, e_iR1, e_iR11, e_iR2, e_iR21, e_yes, e_lc, e_lc1, e_lc2, e_wipe0, e_wipe1, e_back0, e_back1, e_back2, e_noneOwn0, e_noneOwn1, e_noneOwn2, e_noneOwn3, e_noneOwn4, e_name, e_set, e_tNil, e_tCons, e_tCons1, e_tTup, e_seq, e_seq1, e_seq2, e_seq3, e_seq4, e_seq5, e_next, e_break, e_cont, e_expr, e_expr1, e_ret, e_ret1, e_sIf, e_sIf1, e_sIf2, e_asg, e_asg1, e_asg2, e_aug, e_aug0, e_aug1, e_aug2, e_aug3, e_par, e_par1, e_par2, e_app, e_app0, e_app1, e_app2, e_setIx, e_setIx0, e_setIx1, e_setIx2, e_setIx3, e_setIx4, e_match, e_match1, e_mCase, e_mAny, e_raise, e_for, e_body, e_body1, e_body2, e_body3, e_body4, e_body5, e_outs0, e_outs1, e_outs2, e_start0, e_start1, e_addI, e_addL, e_addI2, e_sub, e_cmp, e_eqI, e_neI, e_eqB, e_isN0, e_isN1, e_isN2, e_isN3, e_notN0, e_notN1, e_notN2, e_notN3, e_int, e_intB, e_max, e_min, e_neg, e_bits, e_lenL, e_lenT, e_lenS, e_ixL, e_ixT, e_ixS, e_at0, e_at1, e_at2, e_map, e_lstOf, e_lstOfS, e_seqOf, e_seqOfT, e_seqOfS, e_isiIB, e_isiII, e_isiTT, e_isiLL, ne1, ne2, dl, c100, gs, lc, kl, kl2, al, i1, l2]
end SM
namespace SM
open PySem PySem.Spec DL
open PyProof.Rows hiding St
def nzX (z : Nat × Nat) : D := nd z.1 z.2
def wZ (z : Nat × Nat) : Str := wS z.1 z.2
def joinW (zs : List (Nat × Nat)) : Str := Txt.join z_h7215ee9c (zs.map wZ)
def InX (z : Nat × Nat) : Prop := z.1 < 100 ∧ z.2 < 2 ^ z.1
theorem wZ_len (z : Nat × Nat) (h : InX z) : 1 ≤ (wZ z).length ∧ (wZ z).length ≤ 100 := by
  have a := wdC_len z.1 z.2
  have b : (wZ z).length = (wdC z.1 z.2).length := rfl
  have := h.1
  omega
theorem sum_le : ∀ zs : List (Nat × Nat), (∀ z ∈ zs, InX z) → ((zs.map wZ).map (·.length)).sum ≤ 100 * zs.length
  | [], _ => by simp
  | z :: r, h => by
    have ih := sum_le r fun x hx => h x (by simp [hx])
    have := (wZ_len z (h z (by simp))).2
    rw [List.map_cons, List.map_cons, List.sum_cons, List.length_cons]
    omega
theorem join_ok (zs : List (Nat × Nat)) (h : ∀ z ∈ zs, InX z) (hl : zs.length ≤ 400) : ((zs.map wZ).map (·.length)).sum + (zs.map wZ).length * z_h7215ee9c.length ≤ 16777216 := by
  have := sum_le zs h
  rw [List.length_map]
  have e : z_h7215ee9c.length = 1 := rfl
  rw [e]
  omega
theorem show_node_ok (d n : Nat) (hd : d < 100) (hn : n < 2 ^ d) : m_show_node [nd d n] = .ok (.str (wS d n), false) [] := by
  have a := req_node 100 d n hd (by omega) hn
  have a : m_require_node [.int 100, nd d n] = .ok (.none, false) [] := a
  have b := node_text_ok d n hd
  generalize nd d n = ND at *
  simp [m_show_node, b_show_node, e_tUnl, e_ext, e_ext0, e_ext1, e_ext2, e_dix, e_dix1, e_dix2, e_look, e_rev, e_rev1, e_lr1, e_lr11, e_isE1, e_isE2, e_isE3, e_isE4, e_isE5, e_isE6, e_try, e_try1, e_try2, e_eqAS, e_neAS, e_eqAI, e_neAI, e_bind_ok, e_bind_exc, e_bind_stk, e_var, e_var1, e_var2, e_move, e_move1, e_move2, e_C, e_fin1, e_bin, e_bin1, e_bin2, e_chain, e_chain1, e_chain2, e_chain3, e_chain4, e_chain5, e_if, e_if1, e_if2, e_tv, e_tv1, e_notT, e_notT1, e_andT, e_andT1, e_andT2, e_orT, e_orT1, e_orT2, e_andV, e_andV1, e_andV2, e_orV, e_orV1, e_orV2, e_notV, e_notV1, e_aNil, e_aCons, e_aCons1, e_aCons2, e_star, e_star1, e_star2, e_star3, e_lst, e_lst1, e_tup, e_tup1, e_call, e_call1, e_slot, e_slot1, e_sb, e_sb0, e_sb1, e_sb2, e_sb3, e_bs, e_bs1, e_bs2, e_lenV, e_lenV1, e_un, e_un1, e_def, e_def1, e_def2, e_def3, e_fix0, e_fix1, e_fix2, e_def4, e_def0, e_def01, e_jNil, e_jVal, e_jVal1, e_j2, e_jIo, e_jIo1, e_itD0, e_itD1, e_itD2, e_itD3, e_itJ0, e_itJ1, e_itJ2, e_itP0, e_itP1, e_itP2, e_setMany0, e_setMany1, e_nodup0, e_nodup1, e_noPart, e_part, e_part1, e_slice, e_slice1, e_slice2, e_slice3, e_lstRg, e_lstRg1, e_lstRg2, e_iSeq, e_iSeq1, e_iSeq2, e_iEn, e_iEn1, e_iEn2, e_iR1, e_iR11, e_iR2, e_iR21, e_yes, e_lc, e_lc1, e_lc2, e_wipe0, e_wipe1, e_back0, e_back1, e_back2, e_noneOwn0, e_noneOwn1, e_noneOwn2, e_noneOwn3, e_noneOwn4, e_name, e_set, e_tNil, e_tCons, e_tCons1, e_tTup, e_seq, e_seq1, e_seq2, e_seq3, e_seq4, e_seq5, e_next, e_break, e_cont, e_expr, e_expr1, e_ret, e_ret1, e_sIf, e_sIf1, e_sIf2, e_asg, e_asg1, e_asg2, e_aug, e_aug0, e_aug1, e_aug2, e_aug3, e_par, e_par1, e_par2, e_app, e_app0, e_app1, e_app2, e_setIx, e_setIx0, e_setIx1, e_setIx2, e_setIx3, e_setIx4, e_match, e_match1, e_mCase, e_mAny, e_raise, e_for, e_body, e_body1, e_body2, e_body3, e_body4, e_body5, e_outs0, e_outs1, e_outs2, e_start0, e_start1, e_addI, e_addL, e_addI2, e_sub, e_cmp, e_eqI, e_neI, e_eqB, e_isN0, e_isN1, e_isN2, e_isN3, e_notN0, e_notN1, e_notN2, e_notN3, e_int, e_intB, e_max, e_min, e_neg, e_bits, e_lenL, e_lenT, e_lenS, e_ixL, e_ixT, e_ixS, e_at0, e_at1, e_at2, e_map, e_lstOf, e_lstOfS, e_seqOf, e_seqOfT, e_seqOfS, e_isiIB, e_isiII, e_isiTT, e_isiLL, a, b]
theorem show_nodes_ok (zs : List (Nat × Nat)) (h : ∀ z ∈ zs, InX z) (hl : zs.length ≤ 400) : m_show_nodes [.list (zs.map nzX)] = .ok (.str (joinW zs), false) [] := by
  obtain ⟨δ', i1, x1, x2, rfl, hx2⟩ := forD_inv (tgt := gtTup (gtCons (gtName [] 1) (gtCons (gtName [] 2) gtNil))) (body := lb_show_nodes_1) (ds := enumD 0 (zs.map nzX)) (δ := [some (false, PyData.list (zs.map nzX)), none, none])
    (fun i δ => ∃ x1 x2, δ = [some (false, PyData.list (zs.map nzX)), x1, x2] ∧ (x2 = none ∨ ∃ b, x2 = some (false, b))) ⟨none, none, rfl, .inl rfl⟩ (by
      rintro i x δ hx ⟨x1, x2, rfl, _⟩
      rw [enumD_get] at hx
      obtain ⟨y, hy, rfl⟩ := Option.map_eq_some_iff.mp hx
      obtain ⟨z, hz, rfl⟩ := List.mem_map.mp (List.mem_of_getElem? hy)
      obtain ⟨h1, h2⟩ := h z hz
      have ok := is_node_ok 100 z.1 z.2 h1 (by omega) h2
      have ok : m_is_node [.int 100, nzX z] = .ok (.bool true, false) [] := ok
      generalize nzX z = NZ at *
      generalize zs.map nzX = ZL at *
      refine ⟨[some (false, PyData.list (ZL)), some (false, PyData.int (((0 + i : Nat) : Int))), some (false, NZ)], by simp [e_tUnl, e_ext, e_ext0, e_ext1, e_ext2, e_dix, e_dix1, e_dix2, e_look, e_rev, e_rev1, e_lr1, e_lr11, e_isE1, e_isE2, e_isE3, e_isE4, e_isE5, e_isE6, e_try, e_try1, e_try2, e_eqAS, e_neAS, e_eqAI, e_neAI, e_bind_ok, e_bind_exc, e_bind_stk, e_var, e_var1, e_var2, e_move, e_move1, e_move2, e_C, e_fin1, e_bin, e_bin1, e_bin2, e_chain, e_chain1, e_chain2, e_chain3, e_chain4, e_chain5, e_if, e_if1, e_if2, e_tv, e_tv1, e_notT, e_notT1, e_andT, e_andT1, e_andT2, e_orT, e_orT1, e_orT2, e_andV, e_andV1, e_andV2, e_orV, e_orV1, e_orV2, e_notV, e_notV1, e_aNil, e_aCons, e_aCons1, e_aCons2, e_star, e_star1, e_star2, e_star3, e_lst, e_lst1, e_tup, e_tup1, e_call, e_call1, e_slot, e_slot1, e_sb, e_sb0, e_sb1, e_sb2, e_sb3, e_bs, e_bs1, e_bs2, e_lenV, e_lenV1, e_un, e_un1, e_def, e_def1, e_def2, e_def3, e_fix0, e_fix1, e_fix2, e_def4, e_def0, e_def01, e_jNil, e_jVal, e_jVal1, e_j2, e_jIo, e_jIo1, e_itD0, e_itD1, e_itD2, e_itD3, e_itJ0, e_itJ1, e_itJ2, e_itP0, e_itP1, e_itP2, e_setMany0, e_setMany1, e_nodup0, e_nodup1, e_noPart, e_part, e_part1, e_slice, e_slice1, e_slice2, e_slice3, e_lstRg, e_lstRg1, e_lstRg2, e_iSeq, e_iSeq1, e_iSeq2, e_iEn, e_iEn1, e_iEn2, e_iR1, e_iR11, e_iR2, e_iR21, e_yes, e_lc, e_lc1, e_lc2, e_wipe0, e_wipe1, e_back0, e_back1, e_back2, e_noneOwn0, e_noneOwn1, e_noneOwn2, e_noneOwn3, e_noneOwn4, e_name, e_set, e_tNil, e_tCons, e_tCons1, e_tTup, e_seq, e_seq1, e_seq2, e_seq3, e_seq4, e_seq5, e_next, e_break, e_cont, e_expr, e_expr1, e_ret, e_ret1, e_sIf, e_sIf1, e_sIf2, e_asg, e_asg1, e_asg2, e_aug, e_aug0, e_aug1, e_aug2, e_aug3, e_par, e_par1, e_par2, e_app, e_app0, e_app1, e_app2, e_setIx, e_setIx0, e_setIx1, e_setIx2, e_setIx3, e_setIx4, e_match, e_match1, e_mCase, e_mAny, e_raise, e_for, e_body, e_body1, e_body2, e_body3, e_body4, e_body5, e_outs0, e_outs1, e_outs2, e_start0, e_start1, e_addI, e_addL, e_addI2, e_sub, e_cmp, e_eqI, e_neI, e_eqB, e_isN0, e_isN1, e_isN2, e_isN3, e_notN0, e_notN1, e_notN2, e_notN3, e_int, e_intB, e_max, e_min, e_neg, e_bits, e_lenL, e_lenT, e_lenS, e_ixL, e_ixT, e_ixS, e_at0, e_at1, e_at2, e_map, e_lstOf, e_lstOfS, e_seqOf, e_seqOfT, e_seqOfS, e_isiIB, e_isiII, e_isiTT, e_isiLL], [some (false, PyData.list (ZL)), some (false, PyData.int (((0 + i : Nat) : Int))), some (false, NZ)], ?_, _, _, rfl, .inr ⟨_, rfl⟩⟩
      simp [lb_show_nodes_1, e_tUnl, e_ext, e_ext0, e_ext1, e_ext2, e_dix, e_dix1, e_dix2, e_look, e_rev, e_rev1, e_lr1, e_lr11, e_isE1, e_isE2, e_isE3, e_isE4, e_isE5, e_isE6, e_try, e_try1, e_try2, e_eqAS, e_neAS, e_eqAI, e_neAI, e_bind_ok, e_bind_exc, e_bind_stk, e_var, e_var1, e_var2, e_move, e_move1, e_move2, e_C, e_fin1, e_bin, e_bin1, e_bin2, e_chain, e_chain1, e_chain2, e_chain3, e_chain4, e_chain5, e_if, e_if1, e_if2, e_tv, e_tv1, e_notT, e_notT1, e_andT, e_andT1, e_andT2, e_orT, e_orT1, e_orT2, e_andV, e_andV1, e_andV2, e_orV, e_orV1, e_orV2, e_notV, e_notV1, e_aNil, e_aCons, e_aCons1, e_aCons2, e_star, e_star1, e_star2, e_star3, e_lst, e_lst1, e_tup, e_tup1, e_call, e_call1, e_slot, e_slot1, e_sb, e_sb0, e_sb1, e_sb2, e_sb3, e_bs, e_bs1, e_bs2, e_lenV, e_lenV1, e_un, e_un1, e_def, e_def1, e_def2, e_def3, e_fix0, e_fix1, e_fix2, e_def4, e_def0, e_def01, e_jNil, e_jVal, e_jVal1, e_j2, e_jIo, e_jIo1, e_itD0, e_itD1, e_itD2, e_itD3, e_itJ0, e_itJ1, e_itJ2, e_itP0, e_itP1, e_itP2, e_setMany0, e_setMany1, e_nodup0, e_nodup1, e_noPart, e_part, e_part1, e_slice, e_slice1, e_slice2, e_slice3, e_lstRg, e_lstRg1, e_lstRg2, e_iSeq, e_iSeq1, e_iSeq2, e_iEn, e_iEn1, e_iEn2, e_iR1, e_iR11, e_iR2, e_iR21, e_yes, e_lc, e_lc1, e_lc2, e_wipe0, e_wipe1, e_back0, e_back1, e_back2, e_noneOwn0, e_noneOwn1, e_noneOwn2, e_noneOwn3, e_noneOwn4, e_name, e_set, e_tNil, e_tCons, e_tCons1, e_tTup, e_seq, e_seq1, e_seq2, e_seq3, e_seq4, e_seq5, e_next, e_break, e_cont, e_expr, e_expr1, e_ret, e_ret1, e_sIf, e_sIf1, e_sIf2, e_asg, e_asg1, e_asg2, e_aug, e_aug0, e_aug1, e_aug2, e_aug3, e_par, e_par1, e_par2, e_app, e_app0, e_app1, e_app2, e_setIx, e_setIx0, e_setIx1, e_setIx2, e_setIx3, e_setIx4, e_match, e_match1, e_mCase, e_mAny, e_raise, e_for, e_body, e_body1, e_body2, e_body3, e_body4, e_body5, e_outs0, e_outs1, e_outs2, e_start0, e_start1, e_addI, e_addL, e_addI2, e_sub, e_cmp, e_eqI, e_neI, e_eqB, e_isN0, e_isN1, e_isN2, e_isN3, e_notN0, e_notN1, e_notN2, e_notN3, e_int, e_intB, e_max, e_min, e_neg, e_bits, e_lenL, e_lenT, e_lenS, e_ixL, e_ixT, e_ixS, e_at0, e_at1, e_at2, e_map, e_lstOf, e_lstOfS, e_seqOf, e_seqOfT, e_seqOfS, e_isiIB, e_isiII, e_isiTT, e_isiLL, ok])
  have lc := fun (y1 y2 : Option (Bool × D)) => lcD_filmap (vs := [2]) (tgt := gtName [] 2) (gt := gYes) (ge := ce_show_nodes_1) (δ := [some (false, PyData.list (zs.map nzX)), y1, none]) nzX (fun _ => true) (fun z => PyData.str (wZ z)) (ps := zs) [] (by
    intro z hz
    have t := node_text_ok z.1 z.2 (h z hz).1
    have t : m_node_text [nzX z] = .ok (.str (wZ z), false) [] := t
    generalize wZ z = WZ at *
    generalize nzX z = NZ at *
    generalize zs.map nzX = ZL at *
    refine ⟨[some (false, PyData.list (ZL)), y1, some (false, NZ)], [some (false, PyData.list (ZL)), y1, some (false, NZ)], by simp [e_tUnl, e_ext, e_ext0, e_ext1, e_ext2, e_dix, e_dix1, e_dix2, e_look, e_rev, e_rev1, e_lr1, e_lr11, e_isE1, e_isE2, e_isE3, e_isE4, e_isE5, e_isE6, e_try, e_try1, e_try2, e_eqAS, e_neAS, e_eqAI, e_neAI, e_bind_ok, e_bind_exc, e_bind_stk, e_var, e_var1, e_var2, e_move, e_move1, e_move2, e_C, e_fin1, e_bin, e_bin1, e_bin2, e_chain, e_chain1, e_chain2, e_chain3, e_chain4, e_chain5, e_if, e_if1, e_if2, e_tv, e_tv1, e_notT, e_notT1, e_andT, e_andT1, e_andT2, e_orT, e_orT1, e_orT2, e_andV, e_andV1, e_andV2, e_orV, e_orV1, e_orV2, e_notV, e_notV1, e_aNil, e_aCons, e_aCons1, e_aCons2, e_star, e_star1, e_star2, e_star3, e_lst, e_lst1, e_tup, e_tup1, e_call, e_call1, e_slot, e_slot1, e_sb, e_sb0, e_sb1, e_sb2, e_sb3, e_bs, e_bs1, e_bs2, e_lenV, e_lenV1, e_un, e_un1, e_def, e_def1, e_def2, e_def3, e_fix0, e_fix1, e_fix2, e_def4, e_def0, e_def01, e_jNil, e_jVal, e_jVal1, e_j2, e_jIo, e_jIo1, e_itD0, e_itD1, e_itD2, e_itD3, e_itJ0, e_itJ1, e_itJ2, e_itP0, e_itP1, e_itP2, e_setMany0, e_setMany1, e_nodup0, e_nodup1, e_noPart, e_part, e_part1, e_slice, e_slice1, e_slice2, e_slice3, e_lstRg, e_lstRg1, e_lstRg2, e_iSeq, e_iSeq1, e_iSeq2, e_iEn, e_iEn1, e_iEn2, e_iR1, e_iR11, e_iR2, e_iR21, e_yes, e_lc, e_lc1, e_lc2, e_wipe0, e_wipe1, e_back0, e_back1, e_back2, e_noneOwn0, e_noneOwn1, e_noneOwn2, e_noneOwn3, e_noneOwn4, e_name, e_set, e_tNil, e_tCons, e_tCons1, e_tTup, e_seq, e_seq1, e_seq2, e_seq3, e_seq4, e_seq5, e_next, e_break, e_cont, e_expr, e_expr1, e_ret, e_ret1, e_sIf, e_sIf1, e_sIf2, e_asg, e_asg1, e_asg2, e_aug, e_aug0, e_aug1, e_aug2, e_aug3, e_par, e_par1, e_par2, e_app, e_app0, e_app1, e_app2, e_setIx, e_setIx0, e_setIx1, e_setIx2, e_setIx3, e_setIx4, e_match, e_match1, e_mCase, e_mAny, e_raise, e_for, e_body, e_body1, e_body2, e_body3, e_body4, e_body5, e_outs0, e_outs1, e_outs2, e_start0, e_start1, e_addI, e_addL, e_addI2, e_sub, e_cmp, e_eqI, e_neI, e_eqB, e_isN0, e_isN1, e_isN2, e_isN3, e_notN0, e_notN1, e_notN2, e_notN3, e_int, e_intB, e_max, e_min, e_neg, e_bits, e_lenL, e_lenT, e_lenS, e_ixL, e_ixT, e_ixS, e_at0, e_at1, e_at2, e_map, e_lstOf, e_lstOfS, e_seqOf, e_seqOfT, e_seqOfS, e_isiIB, e_isiII, e_isiTT, e_isiLL], by simp [e_tUnl, e_ext, e_ext0, e_ext1, e_ext2, e_dix, e_dix1, e_dix2, e_look, e_rev, e_rev1, e_lr1, e_lr11, e_isE1, e_isE2, e_isE3, e_isE4, e_isE5, e_isE6, e_try, e_try1, e_try2, e_eqAS, e_neAS, e_eqAI, e_neAI, e_bind_ok, e_bind_exc, e_bind_stk, e_var, e_var1, e_var2, e_move, e_move1, e_move2, e_C, e_fin1, e_bin, e_bin1, e_bin2, e_chain, e_chain1, e_chain2, e_chain3, e_chain4, e_chain5, e_if, e_if1, e_if2, e_tv, e_tv1, e_notT, e_notT1, e_andT, e_andT1, e_andT2, e_orT, e_orT1, e_orT2, e_andV, e_andV1, e_andV2, e_orV, e_orV1, e_orV2, e_notV, e_notV1, e_aNil, e_aCons, e_aCons1, e_aCons2, e_star, e_star1, e_star2, e_star3, e_lst, e_lst1, e_tup, e_tup1, e_call, e_call1, e_slot, e_slot1, e_sb, e_sb0, e_sb1, e_sb2, e_sb3, e_bs, e_bs1, e_bs2, e_lenV, e_lenV1, e_un, e_un1, e_def, e_def1, e_def2, e_def3, e_fix0, e_fix1, e_fix2, e_def4, e_def0, e_def01, e_jNil, e_jVal, e_jVal1, e_j2, e_jIo, e_jIo1, e_itD0, e_itD1, e_itD2, e_itD3, e_itJ0, e_itJ1, e_itJ2, e_itP0, e_itP1, e_itP2, e_setMany0, e_setMany1, e_nodup0, e_nodup1, e_noPart, e_part, e_part1, e_slice, e_slice1, e_slice2, e_slice3, e_lstRg, e_lstRg1, e_lstRg2, e_iSeq, e_iSeq1, e_iSeq2, e_iEn, e_iEn1, e_iEn2, e_iR1, e_iR11, e_iR2, e_iR21, e_yes, e_lc, e_lc1, e_lc2, e_wipe0, e_wipe1, e_back0, e_back1, e_back2, e_noneOwn0, e_noneOwn1, e_noneOwn2, e_noneOwn3, e_noneOwn4, e_name, e_set, e_tNil, e_tCons, e_tCons1, e_tTup, e_seq, e_seq1, e_seq2, e_seq3, e_seq4, e_seq5, e_next, e_break, e_cont, e_expr, e_expr1, e_ret, e_ret1, e_sIf, e_sIf1, e_sIf2, e_asg, e_asg1, e_asg2, e_aug, e_aug0, e_aug1, e_aug2, e_aug3, e_par, e_par1, e_par2, e_app, e_app0, e_app1, e_app2, e_setIx, e_setIx0, e_setIx1, e_setIx2, e_setIx3, e_setIx4, e_match, e_match1, e_mCase, e_mAny, e_raise, e_for, e_body, e_body1, e_body2, e_body3, e_body4, e_body5, e_outs0, e_outs1, e_outs2, e_start0, e_start1, e_addI, e_addL, e_addI2, e_sub, e_cmp, e_eqI, e_neI, e_eqB, e_isN0, e_isN1, e_isN2, e_isN3, e_notN0, e_notN1, e_notN2, e_notN3, e_int, e_intB, e_max, e_min, e_neg, e_bits, e_lenL, e_lenT, e_lenS, e_ixL, e_ixT, e_ixS, e_at0, e_at1, e_at2, e_map, e_lstOf, e_lstOfS, e_seqOf, e_seqOfT, e_seqOfS, e_isiIB, e_isiII, e_isiTT, e_isiLL], fun z => absurd z (by decide), fun _ => ⟨[some (false, PyData.list (ZL)), y1, some (false, NZ)], false, by simp [ce_show_nodes_1, e_tUnl, e_ext, e_ext0, e_ext1, e_ext2, e_dix, e_dix1, e_dix2, e_look, e_rev, e_rev1, e_lr1, e_lr11, e_isE1, e_isE2, e_isE3, e_isE4, e_isE5, e_isE6, e_try, e_try1, e_try2, e_eqAS, e_neAS, e_eqAI, e_neAI, e_bind_ok, e_bind_exc, e_bind_stk, e_var, e_var1, e_var2, e_move, e_move1, e_move2, e_C, e_fin1, e_bin, e_bin1, e_bin2, e_chain, e_chain1, e_chain2, e_chain3, e_chain4, e_chain5, e_if, e_if1, e_if2, e_tv, e_tv1, e_notT, e_notT1, e_andT, e_andT1, e_andT2, e_orT, e_orT1, e_orT2, e_andV, e_andV1, e_andV2, e_orV, e_orV1, e_orV2, e_notV, e_notV1, e_aNil, e_aCons, e_aCons1, e_aCons2, e_star, e_star1, e_star2, e_star3, e_lst, e_lst1, e_tup, e_tup1, e_call, e_call1, e_slot, e_slot1, e_sb, e_sb0, e_sb1, e_sb2, e_sb3, e_bs, e_bs1, e_bs2, e_lenV, e_lenV1, e_un, e_un1, e_def, e_def1, e_def2, e_def3, e_fix0, e_fix1, e_fix2, e_def4, e_def0, e_def01, e_jNil, e_jVal, e_jVal1, e_j2, e_jIo, e_jIo1, e_itD0, e_itD1, e_itD2, e_itD3, e_itJ0, e_itJ1, e_itJ2, e_itP0, e_itP1, e_itP2, e_setMany0, e_setMany1, e_nodup0, e_nodup1, e_noPart, e_part, e_part1, e_slice, e_slice1, e_slice2, e_slice3, e_lstRg, e_lstRg1, e_lstRg2, e_iSeq, e_iSeq1, e_iSeq2, e_iEn, e_iEn1, e_iEn2, e_iR1, e_iR11, e_iR2, e_iR21, e_yes, e_lc, e_lc1, e_lc2, e_wipe0, e_wipe1, e_back0, e_back1, e_back2, e_noneOwn0, e_noneOwn1, e_noneOwn2, e_noneOwn3, e_noneOwn4, e_name, e_set, e_tNil, e_tCons, e_tCons1, e_tTup, e_seq, e_seq1, e_seq2, e_seq3, e_seq4, e_seq5, e_next, e_break, e_cont, e_expr, e_expr1, e_ret, e_ret1, e_sIf, e_sIf1, e_sIf2, e_asg, e_asg1, e_asg2, e_aug, e_aug0, e_aug1, e_aug2, e_aug3, e_par, e_par1, e_par2, e_app, e_app0, e_app1, e_app2, e_setIx, e_setIx0, e_setIx1, e_setIx2, e_setIx3, e_setIx4, e_match, e_match1, e_mCase, e_mAny, e_raise, e_for, e_body, e_body1, e_body2, e_body3, e_body4, e_body5, e_outs0, e_outs1, e_outs2, e_start0, e_start1, e_addI, e_addL, e_addI2, e_sub, e_cmp, e_eqI, e_neI, e_eqB, e_isN0, e_isN1, e_isN2, e_isN3, e_notN0, e_notN1, e_notN2, e_notN3, e_int, e_intB, e_max, e_min, e_neg, e_bits, e_lenL, e_lenT, e_lenS, e_ixL, e_ixT, e_ixS, e_at0, e_at1, e_at2, e_map, e_lstOf, e_lstOfS, e_seqOf, e_seqOfT, e_seqOfS, e_isiIB, e_isiII, e_isiTT, e_isiLL, t], by simp [e_tUnl, e_ext, e_ext0, e_ext1, e_ext2, e_dix, e_dix1, e_dix2, e_look, e_rev, e_rev1, e_lr1, e_lr11, e_isE1, e_isE2, e_isE3, e_isE4, e_isE5, e_isE6, e_try, e_try1, e_try2, e_eqAS, e_neAS, e_eqAI, e_neAI, e_bind_ok, e_bind_exc, e_bind_stk, e_var, e_var1, e_var2, e_move, e_move1, e_move2, e_C, e_fin1, e_bin, e_bin1, e_bin2, e_chain, e_chain1, e_chain2, e_chain3, e_chain4, e_chain5, e_if, e_if1, e_if2, e_tv, e_tv1, e_notT, e_notT1, e_andT, e_andT1, e_andT2, e_orT, e_orT1, e_orT2, e_andV, e_andV1, e_andV2, e_orV, e_orV1, e_orV2, e_notV, e_notV1, e_aNil, e_aCons, e_aCons1, e_aCons2, e_star, e_star1, e_star2, e_star3, e_lst, e_lst1, e_tup, e_tup1, e_call, e_call1, e_slot, e_slot1, e_sb, e_sb0, e_sb1, e_sb2, e_sb3, e_bs, e_bs1, e_bs2, e_lenV, e_lenV1, e_un, e_un1, e_def, e_def1, e_def2, e_def3, e_fix0, e_fix1, e_fix2, e_def4, e_def0, e_def01, e_jNil, e_jVal, e_jVal1, e_j2, e_jIo, e_jIo1, e_itD0, e_itD1, e_itD2, e_itD3, e_itJ0, e_itJ1, e_itJ2, e_itP0, e_itP1, e_itP2, e_setMany0, e_setMany1, e_nodup0, e_nodup1, e_noPart, e_part, e_part1, e_slice, e_slice1, e_slice2, e_slice3, e_lstRg, e_lstRg1, e_lstRg2, e_iSeq, e_iSeq1, e_iSeq2, e_iEn, e_iEn1, e_iEn2, e_iR1, e_iR11, e_iR2, e_iR21, e_yes, e_lc, e_lc1, e_lc2, e_wipe0, e_wipe1, e_back0, e_back1, e_back2, e_noneOwn0, e_noneOwn1, e_noneOwn2, e_noneOwn3, e_noneOwn4, e_name, e_set, e_tNil, e_tCons, e_tCons1, e_tTup, e_seq, e_seq1, e_seq2, e_seq3, e_seq4, e_seq5, e_next, e_break, e_cont, e_expr, e_expr1, e_ret, e_ret1, e_sIf, e_sIf1, e_sIf2, e_asg, e_asg1, e_asg2, e_aug, e_aug0, e_aug1, e_aug2, e_aug3, e_par, e_par1, e_par2, e_app, e_app0, e_app1, e_app2, e_setIx, e_setIx0, e_setIx1, e_setIx2, e_setIx3, e_setIx4, e_match, e_match1, e_mCase, e_mAny, e_raise, e_for, e_body, e_body1, e_body2, e_body3, e_body4, e_body5, e_outs0, e_outs1, e_outs2, e_start0, e_start1, e_addI, e_addL, e_addI2, e_sub, e_cmp, e_eqI, e_neI, e_eqB, e_isN0, e_isN1, e_isN2, e_isN3, e_notN0, e_notN1, e_notN2, e_notN3, e_int, e_intB, e_max, e_min, e_neg, e_bits, e_lenL, e_lenT, e_lenS, e_ixL, e_ixT, e_ixS, e_at0, e_at1, e_at2, e_map, e_lstOf, e_lstOfS, e_seqOf, e_seqOfT, e_seqOfS, e_isiIB, e_isiII, e_isiTT, e_isiLL]⟩⟩)
  simp only [List.nil_append, List.filter_eq_self.mpr (show ∀ a ∈ zs, (fun _ : Nat × Nat => true) a = true from fun _ _ => rfl)] at lc
  have isL : dIsi [.list (zs.map nzX), .dict [(.bool false, .int (-5))]] = some (.bool true, false) := id rfl
  have ml : (zs.map nzX).length = zs.length := by simp
  have c4 : ¬ (400 : Int) < ((zs.length : Nat) : Int) := by omega
  have c5 : ¬ 400 < zs.length := by omega
  have kl : zs.length ≤ LINE := lE _ (by omega)
  have jo := fun (y1 y2 : Option (Bool × D)) (h2 : y2 = none ∨ ∃ b, y2 = some (false, b)) => join_step (go := gC (.str z_h7215ee9c)) (ge := gLc [2] (giSeq (gVar 0)) (gtName [] 2) gYes ce_show_nodes_1) (δ := [some (false, PyData.list (zs.map nzX)), y1, y2]) (δ1 := [some (false, PyData.list (zs.map nzX)), y1, y2]) (δ2 := [some (false, PyData.list (zs.map nzX)), y1, y2]) (a := z_h7215ee9c) (ds := zs.map fun z => PyData.str (wZ z)) (f1 := false) (f2 := true) (by simp [e_tUnl, e_ext, e_ext0, e_ext1, e_ext2, e_dix, e_dix1, e_dix2, e_look, e_rev, e_rev1, e_lr1, e_lr11, e_isE1, e_isE2, e_isE3, e_isE4, e_isE5, e_isE6, e_try, e_try1, e_try2, e_eqAS, e_neAS, e_eqAI, e_neAI, e_bind_ok, e_bind_exc, e_bind_stk, e_var, e_var1, e_var2, e_move, e_move1, e_move2, e_C, e_fin1, e_bin, e_bin1, e_bin2, e_chain, e_chain1, e_chain2, e_chain3, e_chain4, e_chain5, e_if, e_if1, e_if2, e_tv, e_tv1, e_notT, e_notT1, e_andT, e_andT1, e_andT2, e_orT, e_orT1, e_orT2, e_andV, e_andV1, e_andV2, e_orV, e_orV1, e_orV2, e_notV, e_notV1, e_aNil, e_aCons, e_aCons1, e_aCons2, e_star, e_star1, e_star2, e_star3, e_lst, e_lst1, e_tup, e_tup1, e_call, e_call1, e_slot, e_slot1, e_sb, e_sb0, e_sb1, e_sb2, e_sb3, e_bs, e_bs1, e_bs2, e_lenV, e_lenV1, e_un, e_un1, e_def, e_def1, e_def2, e_def3, e_fix0, e_fix1, e_fix2, e_def4, e_def0, e_def01, e_jNil, e_jVal, e_jVal1, e_j2, e_jIo, e_jIo1, e_itD0, e_itD1, e_itD2, e_itD3, e_itJ0, e_itJ1, e_itJ2, e_itP0, e_itP1, e_itP2, e_setMany0, e_setMany1, e_nodup0, e_nodup1, e_noPart, e_part, e_part1, e_slice, e_slice1, e_slice2, e_slice3, e_lstRg, e_lstRg1, e_lstRg2, e_iSeq, e_iSeq1, e_iSeq2, e_iEn, e_iEn1, e_iEn2, e_iR1, e_iR11, e_iR2, e_iR21, e_yes, e_lc, e_lc1, e_lc2, e_wipe0, e_wipe1, e_back0, e_back1, e_back2, e_noneOwn0, e_noneOwn1, e_noneOwn2, e_noneOwn3, e_noneOwn4, e_name, e_set, e_tNil, e_tCons, e_tCons1, e_tTup, e_seq, e_seq1, e_seq2, e_seq3, e_seq4, e_seq5, e_next, e_break, e_cont, e_expr, e_expr1, e_ret, e_ret1, e_sIf, e_sIf1, e_sIf2, e_asg, e_asg1, e_asg2, e_aug, e_aug0, e_aug1, e_aug2, e_aug3, e_par, e_par1, e_par2, e_app, e_app0, e_app1, e_app2, e_setIx, e_setIx0, e_setIx1, e_setIx2, e_setIx3, e_setIx4, e_match, e_match1, e_mCase, e_mAny, e_raise, e_for, e_body, e_body1, e_body2, e_body3, e_body4, e_body5, e_outs0, e_outs1, e_outs2, e_start0, e_start1, e_addI, e_addL, e_addI2, e_sub, e_cmp, e_eqI, e_neI, e_eqB, e_isN0, e_isN1, e_isN2, e_isN3, e_notN0, e_notN1, e_notN2, e_notN3, e_int, e_intB, e_max, e_min, e_neg, e_bits, e_lenL, e_lenT, e_lenS, e_ixL, e_ixT, e_ixS, e_at0, e_at1, e_at2, e_map, e_lstOf, e_lstOfS, e_seqOf, e_seqOfT, e_seqOfS, e_isiIB, e_isiII, e_isiTT, e_isiLL]) (by
    have lc := lc y1 y2
    have kl : (zs.map nzX).length ≤ LINE := by rw [ml]; exact kl
    generalize (zs.map fun z => PyData.str (wZ z)) = WL at *
    generalize zs.map nzX = ZL at *
    rcases h2 with rfl | ⟨b, rfl⟩ <;> simp [e_tUnl, e_ext, e_ext0, e_ext1, e_ext2, e_dix, e_dix1, e_dix2, e_look, e_rev, e_rev1, e_lr1, e_lr11, e_isE1, e_isE2, e_isE3, e_isE4, e_isE5, e_isE6, e_try, e_try1, e_try2, e_eqAS, e_neAS, e_eqAI, e_neAI, e_bind_ok, e_bind_exc, e_bind_stk, e_var, e_var1, e_var2, e_move, e_move1, e_move2, e_C, e_fin1, e_bin, e_bin1, e_bin2, e_chain, e_chain1, e_chain2, e_chain3, e_chain4, e_chain5, e_if, e_if1, e_if2, e_tv, e_tv1, e_notT, e_notT1, e_andT, e_andT1, e_andT2, e_orT, e_orT1, e_orT2, e_andV, e_andV1, e_andV2, e_orV, e_orV1, e_orV2, e_notV, e_notV1, e_aNil, e_aCons, e_aCons1, e_aCons2, e_star, e_star1, e_star2, e_star3, e_lst, e_lst1, e_tup, e_tup1, e_call, e_call1, e_slot, e_slot1, e_sb, e_sb0, e_sb1, e_sb2, e_sb3, e_bs, e_bs1, e_bs2, e_lenV, e_lenV1, e_un, e_un1, e_def, e_def1, e_def2, e_def3, e_fix0, e_fix1, e_fix2, e_def4, e_def0, e_def01, e_jNil, e_jVal, e_jVal1, e_j2, e_jIo, e_jIo1, e_itD0, e_itD1, e_itD2, e_itD3, e_itJ0, e_itJ1, e_itJ2, e_itP0, e_itP1, e_itP2, e_setMany0, e_setMany1, e_nodup0, e_nodup1, e_noPart, e_part, e_part1, e_slice, e_slice1, e_slice2, e_slice3, e_lstRg, e_lstRg1, e_lstRg2, e_iSeq, e_iSeq1, e_iSeq2, e_iEn, e_iEn1, e_iEn2, e_iR1, e_iR11, e_iR2, e_iR21, e_yes, e_lc, e_lc1, e_lc2, e_wipe0, e_wipe1, e_back0, e_back1, e_back2, e_noneOwn0, e_noneOwn1, e_noneOwn2, e_noneOwn3, e_noneOwn4, e_name, e_set, e_tNil, e_tCons, e_tCons1, e_tTup, e_seq, e_seq1, e_seq2, e_seq3, e_seq4, e_seq5, e_next, e_break, e_cont, e_expr, e_expr1, e_ret, e_ret1, e_sIf, e_sIf1, e_sIf2, e_asg, e_asg1, e_asg2, e_aug, e_aug0, e_aug1, e_aug2, e_aug3, e_par, e_par1, e_par2, e_app, e_app0, e_app1, e_app2, e_setIx, e_setIx0, e_setIx1, e_setIx2, e_setIx3, e_setIx4, e_match, e_match1, e_mCase, e_mAny, e_raise, e_for, e_body, e_body1, e_body2, e_body3, e_body4, e_body5, e_outs0, e_outs1, e_outs2, e_start0, e_start1, e_addI, e_addL, e_addI2, e_sub, e_cmp, e_eqI, e_neI, e_eqB, e_isN0, e_isN1, e_isN2, e_isN3, e_notN0, e_notN1, e_notN2, e_notN3, e_int, e_intB, e_max, e_min, e_neg, e_bits, e_lenL, e_lenT, e_lenS, e_ixL, e_ixT, e_ixS, e_at0, e_at1, e_at2, e_map, e_lstOf, e_lstOfS, e_seqOf, e_seqOfT, e_seqOfS, e_isiIB, e_isiII, e_isiTT, e_isiLL, lc, kl]) (by
    have := strsD_map (zs.map wZ)
    rw [List.map_map] at this
    exact this) (join_ok zs h hl)
  have jj : Txt.join z_h7215ee9c (zs.map wZ) = joinW zs := rfl
  have jo := jo x1 x2 hx2
  rw [jj] at jo
  generalize joinW zs = JW at *
  generalize zs.map nzX = ZL at *
  simp [m_show_nodes, b_show_nodes, e_tUnl, e_ext, e_ext0, e_ext1, e_ext2, e_dix, e_dix1, e_dix2, e_look, e_rev, e_rev1, e_lr1, e_lr11, e_isE1, e_isE2, e_isE3, e_isE4, e_isE5, e_isE6, e_try, e_try1, e_try2, e_eqAS, e_neAS, e_eqAI, e_neAI, e_bind_ok, e_bind_exc, e_bind_stk, e_var, e_var1, e_var2, e_move, e_move1, e_move2, e_C, e_fin1, e_bin, e_bin1, e_bin2, e_chain, e_chain1, e_chain2, e_chain3, e_chain4, e_chain5, e_if, e_if1, e_if2, e_tv, e_tv1, e_notT, e_notT1, e_andT, e_andT1, e_andT2, e_orT, e_orT1, e_orT2, e_andV, e_andV1, e_andV2, e_orV, e_orV1, e_orV2, e_notV, e_notV1, e_aNil, e_aCons, e_aCons1, e_aCons2, e_star, e_star1, e_star2, e_star3, e_lst, e_lst1, e_tup, e_tup1, e_call, e_call1, e_slot, e_slot1, e_sb, e_sb0, e_sb1, e_sb2, e_sb3, e_bs, e_bs1, e_bs2, e_lenV, e_lenV1, e_un, e_un1, e_def, e_def1, e_def2, e_def3, e_fix0, e_fix1, e_fix2, e_def4, e_def0, e_def01, e_jNil, e_jVal, e_jVal1, e_j2, e_jIo, e_jIo1, e_itD0, e_itD1, e_itD2, e_itD3, e_itJ0, e_itJ1, e_itJ2, e_itP0, e_itP1, e_itP2, e_setMany0, e_setMany1, e_nodup0, e_nodup1, e_noPart, e_part, e_part1, e_slice, e_slice1, e_slice2, e_slice3, e_lstRg, e_lstRg1, e_lstRg2, e_iSeq, e_iSeq1, e_iSeq2, e_iEn, e_iEn1, e_iEn2, e_iR1, e_iR11, e_iR2, e_iR21, e_yes, e_lc, e_lc1, e_lc2, e_wipe0, e_wipe1, e_back0, e_back1, e_back2, e_noneOwn0, e_noneOwn1, e_noneOwn2, e_noneOwn3, e_noneOwn4, e_name, e_set, e_tNil, e_tCons, e_tCons1, e_tTup, e_seq, e_seq1, e_seq2, e_seq3, e_seq4, e_seq5, e_next, e_break, e_cont, e_expr, e_expr1, e_ret, e_ret1, e_sIf, e_sIf1, e_sIf2, e_asg, e_asg1, e_asg2, e_aug, e_aug0, e_aug1, e_aug2, e_aug3, e_par, e_par1, e_par2, e_app, e_app0, e_app1, e_app2, e_setIx, e_setIx0, e_setIx1, e_setIx2, e_setIx3, e_setIx4, e_match, e_match1, e_mCase, e_mAny, e_raise, e_for, e_body, e_body1, e_body2, e_body3, e_body4, e_body5, e_outs0, e_outs1, e_outs2, e_start0, e_start1, e_addI, e_addL, e_addI2, e_sub, e_cmp, e_eqI, e_neI, e_eqB, e_isN0, e_isN1, e_isN2, e_isN3, e_notN0, e_notN1, e_notN2, e_notN3, e_int, e_intB, e_max, e_min, e_neg, e_bits, e_lenL, e_lenT, e_lenS, e_ixL, e_ixT, e_ixS, e_at0, e_at1, e_at2, e_map, e_lstOf, e_lstOfS, e_seqOf, e_seqOfT, e_seqOfS, e_isiIB, e_isiII, e_isiTT, e_isiLL, isL, ml, c4, c5, i1, jo, -e_lc]
end SM
namespace SM
open PySem PySem.Spec DL
open PyProof.Rows hiding St
theorem joinW_nil : joinW [] = z_ := by
  refine TL.ext_tl ?_
  unfold joinW
  rw [TL.join_eq]
  rfl
theorem joinW_len (zs : List (Nat × Nat)) (h : ∀ z ∈ zs, InX z) : (joinW zs).length ≤ 101 * zs.length := by
  have a := StrLaws.join_length_le z_h7215ee9c (zs.map wZ)
  have b := sum_le zs h
  unfold joinW
  rw [TL.join_eq]
  rw [List.length_map] at a
  have e : z_h7215ee9c.length = 1 := rfl
  rw [e] at a
  omega
theorem joinW_ne (z : Nat × Nat) (r : List (Nat × Nat)) (hz : InX z) : ¬ joinW (z :: r) = z_ := fun e => by
  have t : TL.tl (joinW (z :: r)) = TL.tl z_ := by rw [e]
  unfold joinW at t
  rw [TL.join_eq, TL.tl_join] at t
  have l := (wdC_len z.1 z.2).1
  have t2 : TL.tl z_ = [] := rfl
  rw [t2] at t
  cases r with
  | nil =>
    have : wdC z.1 z.2 = [] := t
    rw [this] at l
    simp at l
  | cons y r =>
    have : wdC z.1 z.2 ++ (TL.tl z_h7215ee9c ++ TL.joinL (TL.tl z_h7215ee9c) ((wZ y :: r.map wZ).map TL.tl)) = [] := t
    have : wdC z.1 z.2 = [] := (List.append_eq_nil_iff.mp this).1
    rw [this] at l
    simp at l
theorem split_join (z : Nat × Nat) (r : List (Nat × Nat)) : Txt.split (joinW (z :: r)) z_h7215ee9c = (z :: r).map wZ :=
  TL.split_join (y := z_h7215ee9c) (s := 32) (S := []) rfl (by decide +kernel) (by simp) fun p hp => by
    obtain ⟨y, _, rfl⟩ := List.mem_map.mp hp
    exact wdC_no y.1 y.2
theorem read_nodes_ok (zs : List (Nat × Nat)) (h : ∀ z ∈ zs, InX z) (hl : zs.length ≤ 400) : m_read_nodes [.str (joinW zs)] = .ok (.list (zs.map nzX), true) [] := by
  have isS : dIsi [.str (joinW zs), .dict [(.bool false, .int (-3))]] = some (.bool true, false) := id rfl
  -- the words
  obtain ⟨δ', i1, x2, x3, x4, rfl⟩ := forD_inv (tgt := gtTup (gtCons (gtName [] 2) (gtCons (gtName [] 3) gtNil))) (body := lb_read_nodes_1) (ds := enumD 0 (zs.map fun z => PyData.str (wZ z))) (δ := [some (false, PyData.str (joinW zs)), some (true, .list []), none, none, none])
    (fun i δ => ∃ x2 x3 x4, δ = [some (false, PyData.str (joinW zs)), some (true, .list ((zs.take i).map nzX)), x2, x3, x4]) ⟨none, none, none, rfl⟩ (by
      rintro i x δ hx ⟨x2, x3, x4, rfl⟩
      rw [enumD_get] at hx
      obtain ⟨y, hy, rfl⟩ := Option.map_eq_some_iff.mp hx
      rw [List.getElem?_map] at hy
      obtain ⟨z, hz, rfl⟩ := Option.map_eq_some_iff.mp hy
      have hi := (List.getElem?_eq_some_iff.mp hz).1
      obtain ⟨h1, h2⟩ := h z (List.mem_of_getElem? hz)
      have ni := node_in_ok z.1 z.2 h1 h2
      have ni : m_node_in [.str (wZ z)] = .ok (nzX z, false) [] := ni
      have tk : (zs.take (i + 1)).map nzX = (zs.take i).map nzX ++ [nzX z] := by
        rw [List.take_add_one, hz, List.map_append]
        rfl
      have c : (i : Int) < 400 := by omega
      have is : dIs (nzX z) .none = some (.bool false, false) := nd_is z.1 z.2
      have ll : ((zs.take i).map nzX).length < LINE := by rw [List.length_map, List.length_take]; show _ < 16777216; omega
      rw [tk]
      have ei : ((0 + i : Nat) : Int) = (i : Int) := by omega
      generalize wZ z = WZ at *
      generalize nzX z = NZ at *
      generalize (zs.take i).map nzX = TK at *
      generalize joinW zs = JW at *
      refine ⟨[some (false, PyData.str (JW)), some (true, .list TK), some (false, PyData.int (i)), some (false, PyData.str (WZ)), x4], by simp [e_tUnl, e_ext, e_ext0, e_ext1, e_ext2, e_dix, e_dix1, e_dix2, e_look, e_rev, e_rev1, e_lr1, e_lr11, e_isE1, e_isE2, e_isE3, e_isE4, e_isE5, e_isE6, e_try, e_try1, e_try2, e_eqAS, e_neAS, e_eqAI, e_neAI, e_bind_ok, e_bind_exc, e_bind_stk, e_var, e_var1, e_var2, e_move, e_move1, e_move2, e_C, e_fin1, e_bin, e_bin1, e_bin2, e_chain, e_chain1, e_chain2, e_chain3, e_chain4, e_chain5, e_if, e_if1, e_if2, e_tv, e_tv1, e_notT, e_notT1, e_andT, e_andT1, e_andT2, e_orT, e_orT1, e_orT2, e_andV, e_andV1, e_andV2, e_orV, e_orV1, e_orV2, e_notV, e_notV1, e_aNil, e_aCons, e_aCons1, e_aCons2, e_star, e_star1, e_star2, e_star3, e_lst, e_lst1, e_tup, e_tup1, e_call, e_call1, e_slot, e_slot1, e_sb, e_sb0, e_sb1, e_sb2, e_sb3, e_bs, e_bs1, e_bs2, e_lenV, e_lenV1, e_un, e_un1, e_def, e_def1, e_def2, e_def3, e_fix0, e_fix1, e_fix2, e_def4, e_def0, e_def01, e_jNil, e_jVal, e_jVal1, e_j2, e_jIo, e_jIo1, e_itD0, e_itD1, e_itD2, e_itD3, e_itJ0, e_itJ1, e_itJ2, e_itP0, e_itP1, e_itP2, e_setMany0, e_setMany1, e_nodup0, e_nodup1, e_noPart, e_part, e_part1, e_slice, e_slice1, e_slice2, e_slice3, e_lstRg, e_lstRg1, e_lstRg2, e_iSeq, e_iSeq1, e_iSeq2, e_iEn, e_iEn1, e_iEn2, e_iR1, e_iR11, e_iR2, e_iR21, e_yes, e_lc, e_lc1, e_lc2, e_wipe0, e_wipe1, e_back0, e_back1, e_back2, e_noneOwn0, e_noneOwn1, e_noneOwn2, e_noneOwn3, e_noneOwn4, e_name, e_set, e_tNil, e_tCons, e_tCons1, e_tTup, e_seq, e_seq1, e_seq2, e_seq3, e_seq4, e_seq5, e_next, e_break, e_cont, e_expr, e_expr1, e_ret, e_ret1, e_sIf, e_sIf1, e_sIf2, e_asg, e_asg1, e_asg2, e_aug, e_aug0, e_aug1, e_aug2, e_aug3, e_par, e_par1, e_par2, e_app, e_app0, e_app1, e_app2, e_setIx, e_setIx0, e_setIx1, e_setIx2, e_setIx3, e_setIx4, e_match, e_match1, e_mCase, e_mAny, e_raise, e_for, e_body, e_body1, e_body2, e_body3, e_body4, e_body5, e_outs0, e_outs1, e_outs2, e_start0, e_start1, e_addI, e_addL, e_addI2, e_sub, e_cmp, e_eqI, e_neI, e_eqB, e_isN0, e_isN1, e_isN2, e_isN3, e_notN0, e_notN1, e_notN2, e_notN3, e_int, e_intB, e_max, e_min, e_neg, e_bits, e_lenL, e_lenT, e_lenS, e_ixL, e_ixT, e_ixS, e_at0, e_at1, e_at2, e_map, e_lstOf, e_lstOfS, e_seqOf, e_seqOfT, e_seqOfS, e_isiIB, e_isiII, e_isiTT, e_isiLL], [some (false, PyData.str (JW)), some (true, .list (TK ++ [NZ])), some (false, PyData.int (i)), some (false, PyData.str (WZ)), some (false, NZ)], ?_, _, _, _, rfl⟩
      simp [lb_read_nodes_1, e_tUnl, e_ext, e_ext0, e_ext1, e_ext2, e_dix, e_dix1, e_dix2, e_look, e_rev, e_rev1, e_lr1, e_lr11, e_isE1, e_isE2, e_isE3, e_isE4, e_isE5, e_isE6, e_try, e_try1, e_try2, e_eqAS, e_neAS, e_eqAI, e_neAI, e_bind_ok, e_bind_exc, e_bind_stk, e_var, e_var1, e_var2, e_move, e_move1, e_move2, e_C, e_fin1, e_bin, e_bin1, e_bin2, e_chain, e_chain1, e_chain2, e_chain3, e_chain4, e_chain5, e_if, e_if1, e_if2, e_tv, e_tv1, e_notT, e_notT1, e_andT, e_andT1, e_andT2, e_orT, e_orT1, e_orT2, e_andV, e_andV1, e_andV2, e_orV, e_orV1, e_orV2, e_notV, e_notV1, e_aNil, e_aCons, e_aCons1, e_aCons2, e_star, e_star1, e_star2, e_star3, e_lst, e_lst1, e_tup, e_tup1, e_call, e_call1, e_slot, e_slot1, e_sb, e_sb0, e_sb1, e_sb2, e_sb3, e_bs, e_bs1, e_bs2, e_lenV, e_lenV1, e_un, e_un1, e_def, e_def1, e_def2, e_def3, e_fix0, e_fix1, e_fix2, e_def4, e_def0, e_def01, e_jNil, e_jVal, e_jVal1, e_j2, e_jIo, e_jIo1, e_itD0, e_itD1, e_itD2, e_itD3, e_itJ0, e_itJ1, e_itJ2, e_itP0, e_itP1, e_itP2, e_setMany0, e_setMany1, e_nodup0, e_nodup1, e_noPart, e_part, e_part1, e_slice, e_slice1, e_slice2, e_slice3, e_lstRg, e_lstRg1, e_lstRg2, e_iSeq, e_iSeq1, e_iSeq2, e_iEn, e_iEn1, e_iEn2, e_iR1, e_iR11, e_iR2, e_iR21, e_yes, e_lc, e_lc1, e_lc2, e_wipe0, e_wipe1, e_back0, e_back1, e_back2, e_noneOwn0, e_noneOwn1, e_noneOwn2, e_noneOwn3, e_noneOwn4, e_name, e_set, e_tNil, e_tCons, e_tCons1, e_tTup, e_seq, e_seq1, e_seq2, e_seq3, e_seq4, e_seq5, e_next, e_break, e_cont, e_expr, e_expr1, e_ret, e_ret1, e_sIf, e_sIf1, e_sIf2, e_asg, e_asg1, e_asg2, e_aug, e_aug0, e_aug1, e_aug2, e_aug3, e_par, e_par1, e_par2, e_app, e_app0, e_app1, e_app2, e_setIx, e_setIx0, e_setIx1, e_setIx2, e_setIx3, e_setIx4, e_match, e_match1, e_mCase, e_mAny, e_raise, e_for, e_body, e_body1, e_body2, e_body3, e_body4, e_body5, e_outs0, e_outs1, e_outs2, e_start0, e_start1, e_addI, e_addL, e_addI2, e_sub, e_cmp, e_eqI, e_neI, e_eqB, e_isN0, e_isN1, e_isN2, e_isN3, e_notN0, e_notN1, e_notN2, e_notN3, e_int, e_intB, e_max, e_min, e_neg, e_bits, e_lenL, e_lenT, e_lenS, e_ixL, e_ixT, e_ixS, e_at0, e_at1, e_at2, e_map, e_lstOf, e_lstOfS, e_seqOf, e_seqOfT, e_seqOfS, e_isiIB, e_isiII, e_isiTT, e_isiLL, c, ni, is, ll])
  rw [enumD_len, List.length_map, List.take_length] at i1
  have l0 := l0
  cases zs with
  | nil =>
    rw [joinW_nil] at *
    simp only [List.map_nil] at i1
    simp [m_read_nodes, b_read_nodes, e_tUnl, e_ext, e_ext0, e_ext1, e_ext2, e_dix, e_dix1, e_dix2, e_look, e_rev, e_rev1, e_lr1, e_lr11, e_isE1, e_isE2, e_isE3, e_isE4, e_isE5, e_isE6, e_try, e_try1, e_try2, e_eqAS, e_neAS, e_eqAI, e_neAI, e_bind_ok, e_bind_exc, e_bind_stk, e_var, e_var1, e_var2, e_move, e_move1, e_move2, e_C, e_fin1, e_bin, e_bin1, e_bin2, e_chain, e_chain1, e_chain2, e_chain3, e_chain4, e_chain5, e_if, e_if1, e_if2, e_tv, e_tv1, e_notT, e_notT1, e_andT, e_andT1, e_andT2, e_orT, e_orT1, e_orT2, e_andV, e_andV1, e_andV2, e_orV, e_orV1, e_orV2, e_notV, e_notV1, e_aNil, e_aCons, e_aCons1, e_aCons2, e_star, e_star1, e_star2, e_star3, e_lst, e_lst1, e_tup, e_tup1, e_call, e_call1, e_slot, e_slot1, e_sb, e_sb0, e_sb1, e_sb2, e_sb3, e_bs, e_bs1, e_bs2, e_lenV, e_lenV1, e_un, e_un1, e_def, e_def1, e_def2, e_def3, e_fix0, e_fix1, e_fix2, e_def4, e_def0, e_def01, e_jNil, e_jVal, e_jVal1, e_j2, e_jIo, e_jIo1, e_itD0, e_itD1, e_itD2, e_itD3, e_itJ0, e_itJ1, e_itJ2, e_itP0, e_itP1, e_itP2, e_setMany0, e_setMany1, e_nodup0, e_nodup1, e_noPart, e_part, e_part1, e_slice, e_slice1, e_slice2, e_slice3, e_lstRg, e_lstRg1, e_lstRg2, e_iSeq, e_iSeq1, e_iSeq2, e_iEn, e_iEn1, e_iEn2, e_iR1, e_iR11, e_iR2, e_iR21, e_yes, e_lc, e_lc1, e_lc2, e_wipe0, e_wipe1, e_back0, e_back1, e_back2, e_noneOwn0, e_noneOwn1, e_noneOwn2, e_noneOwn3, e_noneOwn4, e_name, e_set, e_tNil, e_tCons, e_tCons1, e_tTup, e_seq, e_seq1, e_seq2, e_seq3, e_seq4, e_seq5, e_next, e_break, e_cont, e_expr, e_expr1, e_ret, e_ret1, e_sIf, e_sIf1, e_sIf2, e_asg, e_asg1, e_asg2, e_aug, e_aug0, e_aug1, e_aug2, e_aug3, e_par, e_par1, e_par2, e_app, e_app0, e_app1, e_app2, e_setIx, e_setIx0, e_setIx1, e_setIx2, e_setIx3, e_setIx4, e_match, e_match1, e_mCase, e_mAny, e_raise, e_for, e_body, e_body1, e_body2, e_body3, e_body4, e_body5, e_outs0, e_outs1, e_outs2, e_start0, e_start1, e_addI, e_addL, e_addI2, e_sub, e_cmp, e_eqI, e_neI, e_eqB, e_isN0, e_isN1, e_isN2, e_isN3, e_notN0, e_notN1, e_notN2, e_notN3, e_int, e_intB, e_max, e_min, e_neg, e_bits, e_lenL, e_lenT, e_lenS, e_ixL, e_ixT, e_ixS, e_at0, e_at1, e_at2, e_map, e_lstOf, e_lstOfS, e_seqOf, e_seqOfT, e_seqOfS, e_isiIB, e_isiII, e_isiTT, e_isiLL, isS, l0, i1]
  | cons z r =>
    have ne := joinW_ne z r (h z (by simp))
    have sp := split_join z r
    have jl := joinW_len (z :: r) h
    have gs : ∀ δ : Sl, gSplit (gVar 0) (gC (.str z_h7215ee9c)) (some (false, PyData.str (joinW (z :: r))) :: δ) = .ok (.list ((z :: r).map fun z => PyData.str (wZ z)), true) (some (false, PyData.str (joinW (z :: r))) :: δ) := fun δ => by
      unfold gSplit
      rw [e_var]
      show (DL.R.ok (PyData.str (joinW (z :: r)), false) (some (false, PyData.str (joinW (z :: r))) :: δ) : EV).bind _ = _
      rw [e_bind_ok]
      dsimp only
      rw [e_C, e_bind_ok]
      dsimp only
      rw [sp, if_pos ⟨rfl, by show _ ≤ 16777216; omega, by rw [List.length_map]; show _ ≤ 16777216; omega⟩, List.map_map]
      rfl
    generalize ((z :: r).map fun z => PyData.str (wZ z)) = WL at *
    generalize (z :: r).map nzX = NL at *
    generalize joinW (z :: r) = JW at *
    simp [m_read_nodes, b_read_nodes, e_tUnl, e_ext, e_ext0, e_ext1, e_ext2, e_dix, e_dix1, e_dix2, e_look, e_rev, e_rev1, e_lr1, e_lr11, e_isE1, e_isE2, e_isE3, e_isE4, e_isE5, e_isE6, e_try, e_try1, e_try2, e_eqAS, e_neAS, e_eqAI, e_neAI, e_bind_ok, e_bind_exc, e_bind_stk, e_var, e_var1, e_var2, e_move, e_move1, e_move2, e_C, e_fin1, e_bin, e_bin1, e_bin2, e_chain, e_chain1, e_chain2, e_chain3, e_chain4, e_chain5, e_if, e_if1, e_if2, e_tv, e_tv1, e_notT, e_notT1, e_andT, e_andT1, e_andT2, e_orT, e_orT1, e_orT2, e_andV, e_andV1, e_andV2, e_orV, e_orV1, e_orV2, e_notV, e_notV1, e_aNil, e_aCons, e_aCons1, e_aCons2, e_star, e_star1, e_star2, e_star3, e_lst, e_lst1, e_tup, e_tup1, e_call, e_call1, e_slot, e_slot1, e_sb, e_sb0, e_sb1, e_sb2, e_sb3, e_bs, e_bs1, e_bs2, e_lenV, e_lenV1, e_un, e_un1, e_def, e_def1, e_def2, e_def3, e_fix0, e_fix1, e_fix2, e_def4, e_def0, e_def01, e_jNil, e_jVal, e_jVal1, e_j2, e_jIo, e_jIo1, e_itD0, e_itD1, e_itD2, e_itD3, e_itJ0, e_itJ1, e_itJ2, e_itP0, e_itP1, e_itP2, e_setMany0, e_setMany1, e_nodup0, e_nodup1, e_noPart, e_part, e_part1, e_slice, e_slice1, e_slice2, e_slice3, e_lstRg, e_lstRg1, e_lstRg2, e_iSeq, e_iSeq1, e_iSeq2, e_iEn, e_iEn1, e_iEn2, e_iR1, e_iR11, e_iR2, e_iR21, e_yes, e_lc, e_lc1, e_lc2, e_wipe0, e_wipe1, e_back0, e_back1, e_back2, e_noneOwn0, e_noneOwn1, e_noneOwn2, e_noneOwn3, e_noneOwn4, e_name, e_set, e_tNil, e_tCons, e_tCons1, e_tTup, e_seq, e_seq1, e_seq2, e_seq3, e_seq4, e_seq5, e_next, e_break, e_cont, e_expr, e_expr1, e_ret, e_ret1, e_sIf, e_sIf1, e_sIf2, e_asg, e_asg1, e_asg2, e_aug, e_aug0, e_aug1, e_aug2, e_aug3, e_par, e_par1, e_par2, e_app, e_app0, e_app1, e_app2, e_setIx, e_setIx0, e_setIx1, e_setIx2, e_setIx3, e_setIx4, e_match, e_match1, e_mCase, e_mAny, e_raise, e_for, e_body, e_body1, e_body2, e_body3, e_body4, e_body5, e_outs0, e_outs1, e_outs2, e_start0, e_start1, e_addI, e_addL, e_addI2, e_sub, e_cmp, e_eqI, e_neI, e_eqB, e_isN0, e_isN1, e_isN2, e_isN3, e_notN0, e_notN1, e_notN2, e_notN3, e_int, e_intB, e_max, e_min, e_neg, e_bits, e_lenL, e_lenT, e_lenS, e_ixL, e_ixT, e_ixS, e_at0, e_at1, e_at2, e_map, e_lstOf, e_lstOfS, e_seqOf, e_seqOfT, e_seqOfS, e_isiIB, e_isiII, e_isiTT, e_isiLL, isS, l0, ne, gs, i1]
end SM
namespace SM
open PySem PySem.Spec DL
open PyProof.Rows hiding St
theorem joinW_inj {as bs : List (Nat × Nat)} (ha : ∀ z ∈ as, InX z) (hb : ∀ z ∈ bs, InX z) (la : as.length ≤ 400) (lb : bs.length ≤ 400) (e : joinW as = joinW bs) : as = bs := by
  have x := read_nodes_ok as ha la
  have y := read_nodes_ok bs hb lb
  rw [e, y] at x
  have m : bs.map nzX = as.map nzX := by
    injection x with h1 _
    have h1 := congrArg Prod.fst h1
    exact PyData.list.inj h1
  have inj : ∀ z w : Nat × Nat, nzX z = nzX w → z = w := fun z w h => by
    have h : PyData.tuple [.int (z.1 : Int), .int (z.2 : Int)] = .tuple [.int (w.1 : Int), .int (w.2 : Int)] := h
    injection h with h
    injection h with h1 h
    injection h with h2 _
    injection h1 with h1
    injection h2 with h2
    exact Prod.ext (by omega) (by omega)
  have map_inj : ∀ xs ys : List (Nat × Nat), xs.map nzX = ys.map nzX → xs = ys := fun xs => by
    induction xs with
    | nil => intro ys h; cases ys with
      | nil => rfl
      | cons a r => cases h
    | cons a r ih => intro ys h; cases ys with
      | nil => cases h
      | cons b t =>
        simp only [List.map_cons, List.cons.injEq] at h
        rw [inj a b h.1, ih t h.2]
  exact (map_inj _ _ m).symm
end SM
namespace SM
open PySem PySem.Spec DL
open PyProof.Rows hiding St
def Shp (x : D) : Prop := x.canLay0 = true ∧ x.depth ≤ 60
theorem shp_all {xs : List D} (h : ∀ x ∈ xs, Shp x) : PyData.canLayAll0 xs = true ∧ PyData.depthAll xs ≤ 61 := by
  induction xs with
  | nil => exact ⟨rfl, by simp [PyData.depthAll]⟩
  | cons x xs ih =>
    obtain ⟨a, b⟩ := ih fun y hy => h y (by simp [hy])
    obtain ⟨c, d⟩ := h x (by simp)
    refine ⟨by simp [PyData.canLayAll0, a, c], ?_⟩
    simp only [PyData.depthAll]
    omega
theorem shp_list {xs : List D} (h : ∀ x ∈ xs, Shp x) : SeqAt.shaped (.list xs) = true := by
  obtain ⟨a, b⟩ := shp_all h
  unfold SeqAt.shaped
  have c : (PyData.list xs).canLay0 = true := by simpa [PyData.canLay0] using a
  have d : (PyData.list xs).depth ≤ 64 := by simp only [PyData.depth]; omega
  rw [c, decide_eq_true d]
  rfl
theorem shp_nd (d n : Nat) : Shp (nd d n) := ⟨by simp [nd, PyData.canLay0, PyData.canLayAll0], by simp [nd, PyData.depth, PyData.depthAll]⟩
end SM
namespace SM
open PySem PySem.Spec DL
open PyProof.Rows hiding St
abbrev Zs := List (Nat × Nat)
def zl (zs : Zs) : D := .list (zs.map nzX)
def zt (zs : Zs) : D := .str (joinW zs)
theorem eqv_nd (a b c d : Nat) : PyData.eqv (nd a b) (nd c d) = decide (a = c ∧ b = d) := by
  unfold nd
  rw [eqv_tuple, eqvAll_cons, eqvAll_cons, eqvAll_nil, eqv_int, eqv_int, Bool.eq_iff_iff]
  simp
  omega
theorem eqv_nz (z w : Nat × Nat) : PyData.eqv (nzX z) (nzX w) = decide (z = w) := by
  unfold nzX
  rw [eqv_nd, Bool.eq_iff_iff, decide_eq_true_iff, decide_eq_true_iff]
  exact ⟨fun h => Prod.ext h.1 h.2, fun h => by rw [h]; exact ⟨rfl, rfl⟩⟩
theorem eqvAll_nz : ∀ as bs : Zs, PyData.eqvAll (as.map nzX) (bs.map nzX) = decide (as = bs)
  | [], [] => by rw [List.map_nil, eqvAll_nil]; rfl
  | [], b :: r => by simp [PyData.eqvAll]
  | a :: r, [] => by simp [PyData.eqvAll]
  | a :: r, b :: t => by
    rw [List.map_cons, List.map_cons, eqvAll_cons, eqv_nz, eqvAll_nz r t, Bool.eq_iff_iff]
    simp
theorem shp_zl (zs : Zs) : SeqAt.shaped (zl zs) = true := shp_list fun x hx => by
  obtain ⟨z, _, rfl⟩ := List.mem_map.mp hx
  exact shp_nd z.1 z.2
theorem eq_zl (as bs : Zs) : dEqA (zl as) (zl bs) = some (.bool (decide (as = bs)), false) := by
  show dEq (zl as) (zl bs) = _
  unfold dEq
  rw [shp_zl, shp_zl]
  unfold zl
  rw [eqv_list, eqvAll_nz]
  rfl
theorem ne_zl (as : Zs) : dNeA (zl as) (zl as) = some (.bool false, false) := dNe_self (shp_zl as)
theorem eq_zt {as bs : Zs} (ha : ∀ z ∈ as, InX z) (hb : ∀ z ∈ bs, InX z) (la : as.length ≤ 400) (lb : bs.length ≤ 400) : dEqA (zt as) (zt bs) = some (.bool (decide (as = bs)), false) := by
  show some (PyData.bool (decide (joinW as = joinW bs)), false) = _
  have : decide (joinW as = joinW bs) = decide (as = bs) := by
    rw [Bool.eq_iff_iff, decide_eq_true_iff, decide_eq_true_iff]
    exact ⟨joinW_inj ha hb la lb, fun h => by rw [h]⟩
  rw [this]
theorem ne_bools {α : Type} (f : α → Bool) (xs : List α) : dNeA (.list (xs.map fun x => PyData.bool (f x))) (.list (xs.map fun x => PyData.bool (f x))) = some (.bool false, false) := dNe_self (shp_list fun x hx => by
  obtain ⟨y, _, rfl⟩ := List.mem_map.mp hx
  exact ⟨by simp [PyData.canLay0], by simp [PyData.depth]⟩)
/-- the eight lists -/
def ZsOK (zs : Zs) : Prop := (∀ z ∈ zs, InX z) ∧ zs.length ≤ 400
theorem turn_ok {zss : List Zs} (h : ∀ zs ∈ zss, ZsOK zs) (hl : zss.length ≤ 1000) {zs : Zs} (hz : zs ∈ zss) (x0 x1 x2 x3 x4 x5 : Option (Bool × D)) :
    lb_right_1 [x0, x1, x2, x3, x4, x5, some (false, PyData.list (zss.map zl)), some (false, PyData.list (zss.map zt)), some (false, zl zs), some (false, zt zs), none, none, none, none, none, none, none, none, none, none, none] = .ok .nx [x0, x1, x2, x3, x4, x5, some (false, PyData.list (zss.map zl)), some (false, PyData.list (zss.map zt)), some (false, zl zs), some (false, zt zs), none, none, none, none, none, none, none, none, none, none, none] := by
  have z1 := h zs hz
  have a := read_nodes_ok zs z1.1 z1.2
  have a : m_read_nodes [zt zs] = .ok (zl zs, true) [] := a
  have b := show_nodes_ok zs z1.1 z1.2
  have b : m_show_nodes [zl zs] = .ok (zt zs, false) [] := b
  have c := ne_zl zs
  have fx : fixF (zl zs, true) = (zl zs, true) := rfl
  have d : dNeA (zt zs) (zt zs) = some (.bool false, false) := by
    show some (PyData.bool (!decide (joinW zs = joinW zs)), false) = _
    simp
  have l1 := lcD_filmap (vs := [17]) (tgt := gtName [0] 17) (gt := gYes) (ge := ce_right_3) (δ := [x0, x1, x2, x3, x4, x5, some (false, PyData.list (zss.map zl)), some (false, PyData.list (zss.map zt)), some (false, zl zs), some (false, zt zs), none, none, none, none, none, none, none, none, none, none, none]) zt (fun _ => true) (fun y => PyData.bool (decide (zs = y))) (ps := zss) [] (by
    intro y hy
    have y1 := h y hy
    have e := eq_zt z1.1 y1.1 z1.2 y1.2
    generalize zt zs = A at *
    generalize zt y = B at *
    generalize zl zs = Z at *
    refine ⟨[x0, x1, x2, x3, x4, x5, some (false, PyData.list (zss.map zl)), some (false, PyData.list (zss.map zt)), some (false, Z), some (false, A), none, none, none, none, none, none, none, some (false, B), none, none, none], _, by simp [e_tUnl, e_ext, e_ext0, e_ext1, e_ext2, e_dix, e_dix1, e_dix2, e_look, e_rev, e_rev1, e_lr1, e_lr11, e_isE1, e_isE2, e_isE3, e_isE4, e_isE5, e_isE6, e_try, e_try1, e_try2, e_eqAS, e_neAS, e_eqAI, e_neAI, e_bind_ok, e_bind_exc, e_bind_stk, e_var, e_var1, e_var2, e_move, e_move1, e_move2, e_C, e_fin1, e_bin, e_bin1, e_bin2, e_chain, e_chain1, e_chain2, e_chain3, e_chain4, e_chain5, e_if, e_if1, e_if2, e_tv, e_tv1, e_notT, e_notT1, e_andT, e_andT1, e_andT2, e_orT, e_orT1, e_orT2, e_andV, e_andV1, e_andV2, e_orV, e_orV1, e_orV2, e_notV, e_notV1, e_aNil, e_aCons, e_aCons1, e_aCons2, e_star, e_star1, e_star2, e_star3, e_lst, e_lst1, e_tup, e_tup1, e_call, e_call1, e_slot, e_slot1, e_sb, e_sb0, e_sb1, e_sb2, e_sb3, e_bs, e_bs1, e_bs2, e_lenV, e_lenV1, e_un, e_un1, e_def, e_def1, e_def2, e_def3, e_fix0, e_fix1, e_fix2, e_def4, e_def0, e_def01, e_jNil, e_jVal, e_jVal1, e_j2, e_jIo, e_jIo1, e_itD0, e_itD1, e_itD2, e_itD3, e_itJ0, e_itJ1, e_itJ2, e_itP0, e_itP1, e_itP2, e_setMany0, e_setMany1, e_nodup0, e_nodup1, e_noPart, e_part, e_part1, e_slice, e_slice1, e_slice2, e_slice3, e_lstRg, e_lstRg1, e_lstRg2, e_iSeq, e_iSeq1, e_iSeq2, e_iEn, e_iEn1, e_iEn2, e_iR1, e_iR11, e_iR2, e_iR21, e_yes, e_lc, e_lc1, e_lc2, e_wipe0, e_wipe1, e_back0, e_back1, e_back2, e_noneOwn0, e_noneOwn1, e_noneOwn2, e_noneOwn3, e_noneOwn4, e_name, e_set, e_tNil, e_tCons, e_tCons1, e_tTup, e_seq, e_seq1, e_seq2, e_seq3, e_seq4, e_seq5, e_next, e_break, e_cont, e_expr, e_expr1, e_ret, e_ret1, e_sIf, e_sIf1, e_sIf2, e_asg, e_asg1, e_asg2, e_aug, e_aug0, e_aug1, e_aug2, e_aug3, e_par, e_par1, e_par2, e_app, e_app0, e_app1, e_app2, e_setIx, e_setIx0, e_setIx1, e_setIx2, e_setIx3, e_setIx4, e_match, e_match1, e_mCase, e_mAny, e_raise, e_for, e_body, e_body1, e_body2, e_body3, e_body4, e_body5, e_outs0, e_outs1, e_outs2, e_start0, e_start1, e_addI, e_addL, e_addI2, e_sub, e_cmp, e_eqI, e_neI, e_eqB, e_isN0, e_isN1, e_isN2, e_isN3, e_notN0, e_notN1, e_notN2, e_notN3, e_int, e_intB, e_max, e_min, e_neg, e_bits, e_lenL, e_lenT, e_lenS, e_ixL, e_ixT, e_ixS, e_at0, e_at1, e_at2, e_map, e_lstOf, e_lstOfS, e_seqOf, e_seqOfT, e_seqOfS, e_isiIB, e_isiII, e_isiTT, e_isiLL], rfl, fun z => absurd z (by decide), fun _ => ⟨_, false, by simp [ce_right_3, e_tUnl, e_ext, e_ext0, e_ext1, e_ext2, e_dix, e_dix1, e_dix2, e_look, e_rev, e_rev1, e_lr1, e_lr11, e_isE1, e_isE2, e_isE3, e_isE4, e_isE5, e_isE6, e_try, e_try1, e_try2, e_eqAS, e_neAS, e_eqAI, e_neAI, e_bind_ok, e_bind_exc, e_bind_stk, e_var, e_var1, e_var2, e_move, e_move1, e_move2, e_C, e_fin1, e_bin, e_bin1, e_bin2, e_chain, e_chain1, e_chain2, e_chain3, e_chain4, e_chain5, e_if, e_if1, e_if2, e_tv, e_tv1, e_notT, e_notT1, e_andT, e_andT1, e_andT2, e_orT, e_orT1, e_orT2, e_andV, e_andV1, e_andV2, e_orV, e_orV1, e_orV2, e_notV, e_notV1, e_aNil, e_aCons, e_aCons1, e_aCons2, e_star, e_star1, e_star2, e_star3, e_lst, e_lst1, e_tup, e_tup1, e_call, e_call1, e_slot, e_slot1, e_sb, e_sb0, e_sb1, e_sb2, e_sb3, e_bs, e_bs1, e_bs2, e_lenV, e_lenV1, e_un, e_un1, e_def, e_def1, e_def2, e_def3, e_fix0, e_fix1, e_fix2, e_def4, e_def0, e_def01, e_jNil, e_jVal, e_jVal1, e_j2, e_jIo, e_jIo1, e_itD0, e_itD1, e_itD2, e_itD3, e_itJ0, e_itJ1, e_itJ2, e_itP0, e_itP1, e_itP2, e_setMany0, e_setMany1, e_nodup0, e_nodup1, e_noPart, e_part, e_part1, e_slice, e_slice1, e_slice2, e_slice3, e_lstRg, e_lstRg1, e_lstRg2, e_iSeq, e_iSeq1, e_iSeq2, e_iEn, e_iEn1, e_iEn2, e_iR1, e_iR11, e_iR2, e_iR21, e_yes, e_lc, e_lc1, e_lc2, e_wipe0, e_wipe1, e_back0, e_back1, e_back2, e_noneOwn0, e_noneOwn1, e_noneOwn2, e_noneOwn3, e_noneOwn4, e_name, e_set, e_tNil, e_tCons, e_tCons1, e_tTup, e_seq, e_seq1, e_seq2, e_seq3, e_seq4, e_seq5, e_next, e_break, e_cont, e_expr, e_expr1, e_ret, e_ret1, e_sIf, e_sIf1, e_sIf2, e_asg, e_asg1, e_asg2, e_aug, e_aug0, e_aug1, e_aug2, e_aug3, e_par, e_par1, e_par2, e_app, e_app0, e_app1, e_app2, e_setIx, e_setIx0, e_setIx1, e_setIx2, e_setIx3, e_setIx4, e_match, e_match1, e_mCase, e_mAny, e_raise, e_for, e_body, e_body1, e_body2, e_body3, e_body4, e_body5, e_outs0, e_outs1, e_outs2, e_start0, e_start1, e_addI, e_addL, e_addI2, e_sub, e_cmp, e_eqI, e_neI, e_eqB, e_isN0, e_isN1, e_isN2, e_isN3, e_notN0, e_notN1, e_notN2, e_notN3, e_int, e_intB, e_max, e_min, e_neg, e_bits, e_lenL, e_lenT, e_lenS, e_ixL, e_ixT, e_ixS, e_at0, e_at1, e_at2, e_map, e_lstOf, e_lstOfS, e_seqOf, e_seqOfT, e_seqOfS, e_isiIB, e_isiII, e_isiTT, e_isiLL, e]; rfl, by simp [e_tUnl, e_ext, e_ext0, e_ext1, e_ext2, e_dix, e_dix1, e_dix2, e_look, e_rev, e_rev1, e_lr1, e_lr11, e_isE1, e_isE2, e_isE3, e_isE4, e_isE5, e_isE6, e_try, e_try1, e_try2, e_eqAS, e_neAS, e_eqAI, e_neAI, e_bind_ok, e_bind_exc, e_bind_stk, e_var, e_var1, e_var2, e_move, e_move1, e_move2, e_C, e_fin1, e_bin, e_bin1, e_bin2, e_chain, e_chain1, e_chain2, e_chain3, e_chain4, e_chain5, e_if, e_if1, e_if2, e_tv, e_tv1, e_notT, e_notT1, e_andT, e_andT1, e_andT2, e_orT, e_orT1, e_orT2, e_andV, e_andV1, e_andV2, e_orV, e_orV1, e_orV2, e_notV, e_notV1, e_aNil, e_aCons, e_aCons1, e_aCons2, e_star, e_star1, e_star2, e_star3, e_lst, e_lst1, e_tup, e_tup1, e_call, e_call1, e_slot, e_slot1, e_sb, e_sb0, e_sb1, e_sb2, e_sb3, e_bs, e_bs1, e_bs2, e_lenV, e_lenV1, e_un, e_un1, e_def, e_def1, e_def2, e_def3, e_fix0, e_fix1, e_fix2, e_def4, e_def0, e_def01, e_jNil, e_jVal, e_jVal1, e_j2, e_jIo, e_jIo1, e_itD0, e_itD1, e_itD2, e_itD3, e_itJ0, e_itJ1, e_itJ2, e_itP0, e_itP1, e_itP2, e_setMany0, e_setMany1, e_nodup0, e_nodup1, e_noPart, e_part, e_part1, e_slice, e_slice1, e_slice2, e_slice3, e_lstRg, e_lstRg1, e_lstRg2, e_iSeq, e_iSeq1, e_iSeq2, e_iEn, e_iEn1, e_iEn2, e_iR1, e_iR11, e_iR2, e_iR21, e_yes, e_lc, e_lc1, e_lc2, e_wipe0, e_wipe1, e_back0, e_back1, e_back2, e_noneOwn0, e_noneOwn1, e_noneOwn2, e_noneOwn3, e_noneOwn4, e_name, e_set, e_tNil, e_tCons, e_tCons1, e_tTup, e_seq, e_seq1, e_seq2, e_seq3, e_seq4, e_seq5, e_next, e_break, e_cont, e_expr, e_expr1, e_ret, e_ret1, e_sIf, e_sIf1, e_sIf2, e_asg, e_asg1, e_asg2, e_aug, e_aug0, e_aug1, e_aug2, e_aug3, e_par, e_par1, e_par2, e_app, e_app0, e_app1, e_app2, e_setIx, e_setIx0, e_setIx1, e_setIx2, e_setIx3, e_setIx4, e_match, e_match1, e_mCase, e_mAny, e_raise, e_for, e_body, e_body1, e_body2, e_body3, e_body4, e_body5, e_outs0, e_outs1, e_outs2, e_start0, e_start1, e_addI, e_addL, e_addI2, e_sub, e_cmp, e_eqI, e_neI, e_eqB, e_isN0, e_isN1, e_isN2, e_isN3, e_notN0, e_notN1, e_notN2, e_notN3, e_int, e_intB, e_max, e_min, e_neg, e_bits, e_lenL, e_lenT, e_lenS, e_ixL, e_ixT, e_ixS, e_at0, e_at1, e_at2, e_map, e_lstOf, e_lstOfS, e_seqOf, e_seqOfT, e_seqOfS, e_isiIB, e_isiII, e_isiTT, e_isiLL]⟩⟩)
  have l2 := lcD_filmap (vs := [17]) (tgt := gtName [0] 17) (gt := gYes) (ge := ce_right_4) (δ := [x0, x1, x2, x3, x4, x5, some (false, PyData.list (zss.map zl)), some (false, PyData.list (zss.map zt)), some (false, zl zs), some (false, zt zs), none, none, none, none, none, none, none, none, none, none, none]) zl (fun _ => true) (fun y => PyData.bool (decide (zs = y))) (ps := zss) [] (by
    intro y hy
    have e := eq_zl zs y
    generalize zl zs = A at *
    generalize zl y = B at *
    generalize zt zs = Z at *
    refine ⟨[x0, x1, x2, x3, x4, x5, some (false, PyData.list (zss.map zl)), some (false, PyData.list (zss.map zt)), some (false, A), some (false, Z), none, none, none, none, none, none, none, some (false, B), none, none, none], _, by simp [e_tUnl, e_ext, e_ext0, e_ext1, e_ext2, e_dix, e_dix1, e_dix2, e_look, e_rev, e_rev1, e_lr1, e_lr11, e_isE1, e_isE2, e_isE3, e_isE4, e_isE5, e_isE6, e_try, e_try1, e_try2, e_eqAS, e_neAS, e_eqAI, e_neAI, e_bind_ok, e_bind_exc, e_bind_stk, e_var, e_var1, e_var2, e_move, e_move1, e_move2, e_C, e_fin1, e_bin, e_bin1, e_bin2, e_chain, e_chain1, e_chain2, e_chain3, e_chain4, e_chain5, e_if, e_if1, e_if2, e_tv, e_tv1, e_notT, e_notT1, e_andT, e_andT1, e_andT2, e_orT, e_orT1, e_orT2, e_andV, e_andV1, e_andV2, e_orV, e_orV1, e_orV2, e_notV, e_notV1, e_aNil, e_aCons, e_aCons1, e_aCons2, e_star, e_star1, e_star2, e_star3, e_lst, e_lst1, e_tup, e_tup1, e_call, e_call1, e_slot, e_slot1, e_sb, e_sb0, e_sb1, e_sb2, e_sb3, e_bs, e_bs1, e_bs2, e_lenV, e_lenV1, e_un, e_un1, e_def, e_def1, e_def2, e_def3, e_fix0, e_fix1, e_fix2, e_def4, e_def0, e_def01, e_jNil, e_jVal, e_jVal1, e_j2, e_jIo, e_jIo1, e_itD0, e_itD1, e_itD2, e_itD3, e_itJ0, e_itJ1, e_itJ2, e_itP0, e_itP1, e_itP2, e_setMany0, e_setMany1, e_nodup0, e_nodup1, e_noPart, e_part, e_part1, e_slice, e_slice1, e_slice2, e_slice3, e_lstRg, e_lstRg1, e_lstRg2, e_iSeq, e_iSeq1, e_iSeq2, e_iEn, e_iEn1, e_iEn2, e_iR1, e_iR11, e_iR2, e_iR21, e_yes, e_lc, e_lc1, e_lc2, e_wipe0, e_wipe1, e_back0, e_back1, e_back2, e_noneOwn0, e_noneOwn1, e_noneOwn2, e_noneOwn3, e_noneOwn4, e_name, e_set, e_tNil, e_tCons, e_tCons1, e_tTup, e_seq, e_seq1, e_seq2, e_seq3, e_seq4, e_seq5, e_next, e_break, e_cont, e_expr, e_expr1, e_ret, e_ret1, e_sIf, e_sIf1, e_sIf2, e_asg, e_asg1, e_asg2, e_aug, e_aug0, e_aug1, e_aug2, e_aug3, e_par, e_par1, e_par2, e_app, e_app0, e_app1, e_app2, e_setIx, e_setIx0, e_setIx1, e_setIx2, e_setIx3, e_setIx4, e_match, e_match1, e_mCase, e_mAny, e_raise, e_for, e_body, e_body1, e_body2, e_body3, e_body4, e_body5, e_outs0, e_outs1, e_outs2, e_start0, e_start1, e_addI, e_addL, e_addI2, e_sub, e_cmp, e_eqI, e_neI, e_eqB, e_isN0, e_isN1, e_isN2, e_isN3, e_notN0, e_notN1, e_notN2, e_notN3, e_int, e_intB, e_max, e_min, e_neg, e_bits, e_lenL, e_lenT, e_lenS, e_ixL, e_ixT, e_ixS, e_at0, e_at1, e_at2, e_map, e_lstOf, e_lstOfS, e_seqOf, e_seqOfT, e_seqOfS, e_isiIB, e_isiII, e_isiTT, e_isiLL], rfl, fun z => absurd z (by decide), fun _ => ⟨_, false, by simp [ce_right_4, e_tUnl, e_ext, e_ext0, e_ext1, e_ext2, e_dix, e_dix1, e_dix2, e_look, e_rev, e_rev1, e_lr1, e_lr11, e_isE1, e_isE2, e_isE3, e_isE4, e_isE5, e_isE6, e_try, e_try1, e_try2, e_eqAS, e_neAS, e_eqAI, e_neAI, e_bind_ok, e_bind_exc, e_bind_stk, e_var, e_var1, e_var2, e_move, e_move1, e_move2, e_C, e_fin1, e_bin, e_bin1, e_bin2, e_chain, e_chain1, e_chain2, e_chain3, e_chain4, e_chain5, e_if, e_if1, e_if2, e_tv, e_tv1, e_notT, e_notT1, e_andT, e_andT1, e_andT2, e_orT, e_orT1, e_orT2, e_andV, e_andV1, e_andV2, e_orV, e_orV1, e_orV2, e_notV, e_notV1, e_aNil, e_aCons, e_aCons1, e_aCons2, e_star, e_star1, e_star2, e_star3, e_lst, e_lst1, e_tup, e_tup1, e_call, e_call1, e_slot, e_slot1, e_sb, e_sb0, e_sb1, e_sb2, e_sb3, e_bs, e_bs1, e_bs2, e_lenV, e_lenV1, e_un, e_un1, e_def, e_def1, e_def2, e_def3, e_fix0, e_fix1, e_fix2, e_def4, e_def0, e_def01, e_jNil, e_jVal, e_jVal1, e_j2, e_jIo, e_jIo1, e_itD0, e_itD1, e_itD2, e_itD3, e_itJ0, e_itJ1, e_itJ2, e_itP0, e_itP1, e_itP2, e_setMany0, e_setMany1, e_nodup0, e_nodup1, e_noPart, e_part, e_part1, e_slice, e_slice1, e_slice2, e_slice3, e_lstRg, e_lstRg1, e_lstRg2, e_iSeq, e_iSeq1, e_iSeq2, e_iEn, e_iEn1, e_iEn2, e_iR1, e_iR11, e_iR2, e_iR21, e_yes, e_lc, e_lc1, e_lc2, e_wipe0, e_wipe1, e_back0, e_back1, e_back2, e_noneOwn0, e_noneOwn1, e_noneOwn2, e_noneOwn3, e_noneOwn4, e_name, e_set, e_tNil, e_tCons, e_tCons1, e_tTup, e_seq, e_seq1, e_seq2, e_seq3, e_seq4, e_seq5, e_next, e_break, e_cont, e_expr, e_expr1, e_ret, e_ret1, e_sIf, e_sIf1, e_sIf2, e_asg, e_asg1, e_asg2, e_aug, e_aug0, e_aug1, e_aug2, e_aug3, e_par, e_par1, e_par2, e_app, e_app0, e_app1, e_app2, e_setIx, e_setIx0, e_setIx1, e_setIx2, e_setIx3, e_setIx4, e_match, e_match1, e_mCase, e_mAny, e_raise, e_for, e_body, e_body1, e_body2, e_body3, e_body4, e_body5, e_outs0, e_outs1, e_outs2, e_start0, e_start1, e_addI, e_addL, e_addI2, e_sub, e_cmp, e_eqI, e_neI, e_eqB, e_isN0, e_isN1, e_isN2, e_isN3, e_notN0, e_notN1, e_notN2, e_notN3, e_int, e_intB, e_max, e_min, e_neg, e_bits, e_lenL, e_lenT, e_lenS, e_ixL, e_ixT, e_ixS, e_at0, e_at1, e_at2, e_map, e_lstOf, e_lstOfS, e_seqOf, e_seqOfT, e_seqOfS, e_isiIB, e_isiII, e_isiTT, e_isiLL, e]; rfl, by simp [e_tUnl, e_ext, e_ext0, e_ext1, e_ext2, e_dix, e_dix1, e_dix2, e_look, e_rev, e_rev1, e_lr1, e_lr11, e_isE1, e_isE2, e_isE3, e_isE4, e_isE5, e_isE6, e_try, e_try1, e_try2, e_eqAS, e_neAS, e_eqAI, e_neAI, e_bind_ok, e_bind_exc, e_bind_stk, e_var, e_var1, e_var2, e_move, e_move1, e_move2, e_C, e_fin1, e_bin, e_bin1, e_bin2, e_chain, e_chain1, e_chain2, e_chain3, e_chain4, e_chain5, e_if, e_if1, e_if2, e_tv, e_tv1, e_notT, e_notT1, e_andT, e_andT1, e_andT2, e_orT, e_orT1, e_orT2, e_andV, e_andV1, e_andV2, e_orV, e_orV1, e_orV2, e_notV, e_notV1, e_aNil, e_aCons, e_aCons1, e_aCons2, e_star, e_star1, e_star2, e_star3, e_lst, e_lst1, e_tup, e_tup1, e_call, e_call1, e_slot, e_slot1, e_sb, e_sb0, e_sb1, e_sb2, e_sb3, e_bs, e_bs1, e_bs2, e_lenV, e_lenV1, e_un, e_un1, e_def, e_def1, e_def2, e_def3, e_fix0, e_fix1, e_fix2, e_def4, e_def0, e_def01, e_jNil, e_jVal, e_jVal1, e_j2, e_jIo, e_jIo1, e_itD0, e_itD1, e_itD2, e_itD3, e_itJ0, e_itJ1, e_itJ2, e_itP0, e_itP1, e_itP2, e_setMany0, e_setMany1, e_nodup0, e_nodup1, e_noPart, e_part, e_part1, e_slice, e_slice1, e_slice2, e_slice3, e_lstRg, e_lstRg1, e_lstRg2, e_iSeq, e_iSeq1, e_iSeq2, e_iEn, e_iEn1, e_iEn2, e_iR1, e_iR11, e_iR2, e_iR21, e_yes, e_lc, e_lc1, e_lc2, e_wipe0, e_wipe1, e_back0, e_back1, e_back2, e_noneOwn0, e_noneOwn1, e_noneOwn2, e_noneOwn3, e_noneOwn4, e_name, e_set, e_tNil, e_tCons, e_tCons1, e_tTup, e_seq, e_seq1, e_seq2, e_seq3, e_seq4, e_seq5, e_next, e_break, e_cont, e_expr, e_expr1, e_ret, e_ret1, e_sIf, e_sIf1, e_sIf2, e_asg, e_asg1, e_asg2, e_aug, e_aug0, e_aug1, e_aug2, e_aug3, e_par, e_par1, e_par2, e_app, e_app0, e_app1, e_app2, e_setIx, e_setIx0, e_setIx1, e_setIx2, e_setIx3, e_setIx4, e_match, e_match1, e_mCase, e_mAny, e_raise, e_for, e_body, e_body1, e_body2, e_body3, e_body4, e_body5, e_outs0, e_outs1, e_outs2, e_start0, e_start1, e_addI, e_addL, e_addI2, e_sub, e_cmp, e_eqI, e_neI, e_eqB, e_isN0, e_isN1, e_isN2, e_isN3, e_notN0, e_notN1, e_notN2, e_notN3, e_int, e_intB, e_max, e_min, e_neg, e_bits, e_lenL, e_lenT, e_lenS, e_ixL, e_ixT, e_ixS, e_at0, e_at1, e_at2, e_map, e_lstOf, e_lstOfS, e_seqOf, e_seqOfT, e_seqOfS, e_isiIB, e_isiII, e_isiTT, e_isiLL]⟩⟩)
  simp only [List.nil_append, List.filter_eq_self.mpr (show ∀ a ∈ zss, (fun _ : Zs => true) a = true from fun _ _ => rfl)] at l1 l2
  have nb := ne_bools (fun y => decide (zs = y)) zss
  have k1 : (zss.map zl).length ≤ LINE := by rw [List.length_map]; exact lE _ hl
  have k2 : (zss.map zt).length ≤ LINE := by rw [List.length_map]; exact lE _ hl
  generalize (zss.map fun y => PyData.bool (decide (zs = y))) = BS at *
  generalize zss.map zl = LS at *
  generalize zss.map zt = TS at *
  generalize zl zs = A at *
  generalize zt zs = Z at *
  simp [lb_right_1, e_tUnl, e_ext, e_ext0, e_ext1, e_ext2, e_dix, e_dix1, e_dix2, e_look, e_rev, e_rev1, e_lr1, e_lr11, e_isE1, e_isE2, e_isE3, e_isE4, e_isE5, e_isE6, e_try, e_try1, e_try2, e_eqAS, e_neAS, e_eqAI, e_neAI, e_bind_ok, e_bind_exc, e_bind_stk, e_var, e_var1, e_var2, e_move, e_move1, e_move2, e_C, e_fin1, e_bin, e_bin1, e_bin2, e_chain, e_chain1, e_chain2, e_chain3, e_chain4, e_chain5, e_if, e_if1, e_if2, e_tv, e_tv1, e_notT, e_notT1, e_andT, e_andT1, e_andT2, e_orT, e_orT1, e_orT2, e_andV, e_andV1, e_andV2, e_orV, e_orV1, e_orV2, e_notV, e_notV1, e_aNil, e_aCons, e_aCons1, e_aCons2, e_star, e_star1, e_star2, e_star3, e_lst, e_lst1, e_tup, e_tup1, e_call, e_call1, e_slot, e_slot1, e_sb, e_sb0, e_sb1, e_sb2, e_sb3, e_bs, e_bs1, e_bs2, e_lenV, e_lenV1, e_un, e_un1, e_def, e_def1, e_def2, e_def3, e_fix0, e_fix1, e_fix2, e_def4, e_def0, e_def01, e_jNil, e_jVal, e_jVal1, e_j2, e_jIo, e_jIo1, e_itD0, e_itD1, e_itD2, e_itD3, e_itJ0, e_itJ1, e_itJ2, e_itP0, e_itP1, e_itP2, e_setMany0, e_setMany1, e_nodup0, e_nodup1, e_noPart, e_part, e_part1, e_slice, e_slice1, e_slice2, e_slice3, e_lstRg, e_lstRg1, e_lstRg2, e_iSeq, e_iSeq1, e_iSeq2, e_iEn, e_iEn1, e_iEn2, e_iR1, e_iR11, e_iR2, e_iR21, e_yes, e_lc, e_lc1, e_lc2, e_wipe0, e_wipe1, e_back0, e_back1, e_back2, e_noneOwn0, e_noneOwn1, e_noneOwn2, e_noneOwn3, e_noneOwn4, e_name, e_set, e_tNil, e_tCons, e_tCons1, e_tTup, e_seq, e_seq1, e_seq2, e_seq3, e_seq4, e_seq5, e_next, e_break, e_cont, e_expr, e_expr1, e_ret, e_ret1, e_sIf, e_sIf1, e_sIf2, e_asg, e_asg1, e_asg2, e_aug, e_aug0, e_aug1, e_aug2, e_aug3, e_par, e_par1, e_par2, e_app, e_app0, e_app1, e_app2, e_setIx, e_setIx0, e_setIx1, e_setIx2, e_setIx3, e_setIx4, e_match, e_match1, e_mCase, e_mAny, e_raise, e_for, e_body, e_body1, e_body2, e_body3, e_body4, e_body5, e_outs0, e_outs1, e_outs2, e_start0, e_start1, e_addI, e_addL, e_addI2, e_sub, e_cmp, e_eqI, e_neI, e_eqB, e_isN0, e_isN1, e_isN2, e_isN3, e_notN0, e_notN1, e_notN2, e_notN3, e_int, e_intB, e_max, e_min, e_neg, e_bits, e_lenL, e_lenT, e_lenS, e_ixL, e_ixT, e_ixS, e_at0, e_at1, e_at2, e_map, e_lstOf, e_lstOfS, e_seqOf, e_seqOfT, e_seqOfS, e_isiIB, e_isiII, e_isiTT, e_isiLL, fx, a, b, c, d, l1, l2, nb, k1, k2]
end SM
namespace SM
open PySem PySem.Spec DL
open PyProof.Rows hiding St
def wayL (d n : Nat) (m : Nat) : List D := (List.range m).map fun s => nd s (n / 2 ^ (d - s))
theorem shr_st {d n i : Nat} (hi : i ≤ d) : dShr (.int (n : Int)) (.int ((d : Int) - (i : Int))) = some (.int ((n / 2 ^ (d - i) : Nat) : Int), false) := by
  rw [dShr_ok (by omega), show ((d : Int) - (i : Int)).toNat = d - i by omega]
  push_cast
  rfl
theorem way_ok (d n : Nat) (hd : d < 1000) : m__law_way [nd d n] = .ok (.list (wayL d n (d + 1)), true) [] := by
  have c : (-1000000 : Int) ≤ (d : Int) + 1 ∧ (d : Int) + 1 ≤ 16777216 := by omega
  have e0 : ((d : Int) + 1).toNat = d + 1 := by omega
  have i0 := nd_ix0 d n
  have i1 := nd_ix1 d n
  have l2 := l2
  have e : lcD [1] (gtName [] 1) gYes ce_way_1 (rgN 0 (d + 1)) [] [some (false, nd d n), none] = .ok (wayL d n (d + 1)) [some (false, nd d n), none] := by
    rw [lcD_map (fun x => match x with | .int k => nd k.toNat (n / 2 ^ (d - k.toNat)) | _ => .none) []]
    · rw [List.nil_append]
      congr 1
      simp only [rgN, List.map_map, wayL]
      refine List.map_congr_left fun i hi => ?_
      simp only [Function.comp]
      rw [show ((0 : Int) + (i : Int)).toNat = i by omega]
    · intro x hx
      simp only [rgN, List.mem_map, List.mem_range] at hx
      obtain ⟨i, hi, rfl⟩ := hx
      have e5 := shr_st (d := d) (n := n) (i := i) (by omega)
      have en : PyData.tuple [.int (i : Int), .int ((n / 2 ^ (d - i) : Nat) : Int)] = nd i (n / 2 ^ (d - i)) := rfl
      generalize hM : n / 2 ^ (d - i) = M at *
      generalize nd d n = N at *
      refine ⟨[some (false, N), some (false, PyData.int (i))], [some (false, N), some (false, PyData.int (i))], [some (false, N), some (false, PyData.int (i))], false, ?_, rfl, ?_, rfl⟩
      · simp [e_tUnl, e_ext, e_ext0, e_ext1, e_ext2, e_dix, e_dix1, e_dix2, e_look, e_rev, e_rev1, e_lr1, e_lr11, e_isE1, e_isE2, e_isE3, e_isE4, e_isE5, e_isE6, e_try, e_try1, e_try2, e_eqAS, e_neAS, e_eqAI, e_neAI, e_bind_ok, e_bind_exc, e_bind_stk, e_var, e_var1, e_var2, e_move, e_move1, e_move2, e_C, e_fin1, e_bin, e_bin1, e_bin2, e_chain, e_chain1, e_chain2, e_chain3, e_chain4, e_chain5, e_if, e_if1, e_if2, e_tv, e_tv1, e_notT, e_notT1, e_andT, e_andT1, e_andT2, e_orT, e_orT1, e_orT2, e_andV, e_andV1, e_andV2, e_orV, e_orV1, e_orV2, e_notV, e_notV1, e_aNil, e_aCons, e_aCons1, e_aCons2, e_star, e_star1, e_star2, e_star3, e_lst, e_lst1, e_tup, e_tup1, e_call, e_call1, e_slot, e_slot1, e_sb, e_sb0, e_sb1, e_sb2, e_sb3, e_bs, e_bs1, e_bs2, e_lenV, e_lenV1, e_un, e_un1, e_def, e_def1, e_def2, e_def3, e_fix0, e_fix1, e_fix2, e_def4, e_def0, e_def01, e_jNil, e_jVal, e_jVal1, e_j2, e_jIo, e_jIo1, e_itD0, e_itD1, e_itD2, e_itD3, e_itJ0, e_itJ1, e_itJ2, e_itP0, e_itP1, e_itP2, e_setMany0, e_setMany1, e_nodup0, e_nodup1, e_noPart, e_part, e_part1, e_slice, e_slice1, e_slice2, e_slice3, e_lstRg, e_lstRg1, e_lstRg2, e_iSeq, e_iSeq1, e_iSeq2, e_iEn, e_iEn1, e_iEn2, e_iR1, e_iR11, e_iR2, e_iR21, e_yes, e_lc, e_lc1, e_lc2, e_wipe0, e_wipe1, e_back0, e_back1, e_back2, e_noneOwn0, e_noneOwn1, e_noneOwn2, e_noneOwn3, e_noneOwn4, e_name, e_set, e_tNil, e_tCons, e_tCons1, e_tTup, e_seq, e_seq1, e_seq2, e_seq3, e_seq4, e_seq5, e_next, e_break, e_cont, e_expr, e_expr1, e_ret, e_ret1, e_sIf, e_sIf1, e_sIf2, e_asg, e_asg1, e_asg2, e_aug, e_aug0, e_aug1, e_aug2, e_aug3, e_par, e_par1, e_par2, e_app, e_app0, e_app1, e_app2, e_setIx, e_setIx0, e_setIx1, e_setIx2, e_setIx3, e_setIx4, e_match, e_match1, e_mCase, e_mAny, e_raise, e_for, e_body, e_body1, e_body2, e_body3, e_body4, e_body5, e_outs0, e_outs1, e_outs2, e_start0, e_start1, e_addI, e_addL, e_addI2, e_sub, e_cmp, e_eqI, e_neI, e_eqB, e_isN0, e_isN1, e_isN2, e_isN3, e_notN0, e_notN1, e_notN2, e_notN3, e_int, e_intB, e_max, e_min, e_neg, e_bits, e_lenL, e_lenT, e_lenS, e_ixL, e_ixT, e_ixS, e_at0, e_at1, e_at2, e_map, e_lstOf, e_lstOfS, e_seqOf, e_seqOfT, e_seqOfS, e_isiIB, e_isiII, e_isiTT, e_isiLL]
      · simp [ce_way_1, e_tUnl, e_ext, e_ext0, e_ext1, e_ext2, e_dix, e_dix1, e_dix2, e_look, e_rev, e_rev1, e_lr1, e_lr11, e_isE1, e_isE2, e_isE3, e_isE4, e_isE5, e_isE6, e_try, e_try1, e_try2, e_eqAS, e_neAS, e_eqAI, e_neAI, e_bind_ok, e_bind_exc, e_bind_stk, e_var, e_var1, e_var2, e_move, e_move1, e_move2, e_C, e_fin1, e_bin, e_bin1, e_bin2, e_chain, e_chain1, e_chain2, e_chain3, e_chain4, e_chain5, e_if, e_if1, e_if2, e_tv, e_tv1, e_notT, e_notT1, e_andT, e_andT1, e_andT2, e_orT, e_orT1, e_orT2, e_andV, e_andV1, e_andV2, e_orV, e_orV1, e_orV2, e_notV, e_notV1, e_aNil, e_aCons, e_aCons1, e_aCons2, e_star, e_star1, e_star2, e_star3, e_lst, e_lst1, e_tup, e_tup1, e_call, e_call1, e_slot, e_slot1, e_sb, e_sb0, e_sb1, e_sb2, e_sb3, e_bs, e_bs1, e_bs2, e_lenV, e_lenV1, e_un, e_un1, e_def, e_def1, e_def2, e_def3, e_fix0, e_fix1, e_fix2, e_def4, e_def0, e_def01, e_jNil, e_jVal, e_jVal1, e_j2, e_jIo, e_jIo1, e_itD0, e_itD1, e_itD2, e_itD3, e_itJ0, e_itJ1, e_itJ2, e_itP0, e_itP1, e_itP2, e_setMany0, e_setMany1, e_nodup0, e_nodup1, e_noPart, e_part, e_part1, e_slice, e_slice1, e_slice2, e_slice3, e_lstRg, e_lstRg1, e_lstRg2, e_iSeq, e_iSeq1, e_iSeq2, e_iEn, e_iEn1, e_iEn2, e_iR1, e_iR11, e_iR2, e_iR21, e_yes, e_lc, e_lc1, e_lc2, e_wipe0, e_wipe1, e_back0, e_back1, e_back2, e_noneOwn0, e_noneOwn1, e_noneOwn2, e_noneOwn3, e_noneOwn4, e_name, e_set, e_tNil, e_tCons, e_tCons1, e_tTup, e_seq, e_seq1, e_seq2, e_seq3, e_seq4, e_seq5, e_next, e_break, e_cont, e_expr, e_expr1, e_ret, e_ret1, e_sIf, e_sIf1, e_sIf2, e_asg, e_asg1, e_asg2, e_aug, e_aug0, e_aug1, e_aug2, e_aug3, e_par, e_par1, e_par2, e_app, e_app0, e_app1, e_app2, e_setIx, e_setIx0, e_setIx1, e_setIx2, e_setIx3, e_setIx4, e_match, e_match1, e_mCase, e_mAny, e_raise, e_for, e_body, e_body1, e_body2, e_body3, e_body4, e_body5, e_outs0, e_outs1, e_outs2, e_start0, e_start1, e_addI, e_addL, e_addI2, e_sub, e_cmp, e_eqI, e_neI, e_eqB, e_isN0, e_isN1, e_isN2, e_isN3, e_notN0, e_notN1, e_notN2, e_notN3, e_int, e_intB, e_max, e_min, e_neg, e_bits, e_lenL, e_lenT, e_lenS, e_ixL, e_ixT, e_ixS, e_at0, e_at1, e_at2, e_map, e_lstOf, e_lstOfS, e_seqOf, e_seqOfT, e_seqOfS, e_isiIB, e_isiII, e_isiTT, e_isiLL, i0, i1, e5, l2, hM, en, -e_ixT]
  have ll : (rgN 0 (d + 1)).length = d + 1 := by simp [rgN]
  generalize nd d n = N at *
  simp [m__law_way, b__law_way, e_tUnl, e_ext, e_ext0, e_ext1, e_ext2, e_dix, e_dix1, e_dix2, e_look, e_rev, e_rev1, e_lr1, e_lr11, e_isE1, e_isE2, e_isE3, e_isE4, e_isE5, e_isE6, e_try, e_try1, e_try2, e_eqAS, e_neAS, e_eqAI, e_neAI, e_bind_ok, e_bind_exc, e_bind_stk, e_var, e_var1, e_var2, e_move, e_move1, e_move2, e_C, e_fin1, e_bin, e_bin1, e_bin2, e_chain, e_chain1, e_chain2, e_chain3, e_chain4, e_chain5, e_if, e_if1, e_if2, e_tv, e_tv1, e_notT, e_notT1, e_andT, e_andT1, e_andT2, e_orT, e_orT1, e_orT2, e_andV, e_andV1, e_andV2, e_orV, e_orV1, e_orV2, e_notV, e_notV1, e_aNil, e_aCons, e_aCons1, e_aCons2, e_star, e_star1, e_star2, e_star3, e_lst, e_lst1, e_tup, e_tup1, e_call, e_call1, e_slot, e_slot1, e_sb, e_sb0, e_sb1, e_sb2, e_sb3, e_bs, e_bs1, e_bs2, e_lenV, e_lenV1, e_un, e_un1, e_def, e_def1, e_def2, e_def3, e_fix0, e_fix1, e_fix2, e_def4, e_def0, e_def01, e_jNil, e_jVal, e_jVal1, e_j2, e_jIo, e_jIo1, e_itD0, e_itD1, e_itD2, e_itD3, e_itJ0, e_itJ1, e_itJ2, e_itP0, e_itP1, e_itP2, e_setMany0, e_setMany1, e_nodup0, e_nodup1, e_noPart, e_part, e_part1, e_slice, e_slice1, e_slice2, e_slice3, e_lstRg, e_lstRg1, e_lstRg2, e_iSeq, e_iSeq1, e_iSeq2, e_iEn, e_iEn1, e_iEn2, e_iR1, e_iR11, e_iR2, e_iR21, e_yes, e_lc, e_lc1, e_lc2, e_wipe0, e_wipe1, e_back0, e_back1, e_back2, e_noneOwn0, e_noneOwn1, e_noneOwn2, e_noneOwn3, e_noneOwn4, e_name, e_set, e_tNil, e_tCons, e_tCons1, e_tTup, e_seq, e_seq1, e_seq2, e_seq3, e_seq4, e_seq5, e_next, e_break, e_cont, e_expr, e_expr1, e_ret, e_ret1, e_sIf, e_sIf1, e_sIf2, e_asg, e_asg1, e_asg2, e_aug, e_aug0, e_aug1, e_aug2, e_aug3, e_par, e_par1, e_par2, e_app, e_app0, e_app1, e_app2, e_setIx, e_setIx0, e_setIx1, e_setIx2, e_setIx3, e_setIx4, e_match, e_match1, e_mCase, e_mAny, e_raise, e_for, e_body, e_body1, e_body2, e_body3, e_body4, e_body5, e_outs0, e_outs1, e_outs2, e_start0, e_start1, e_addI, e_addL, e_addI2, e_sub, e_cmp, e_eqI, e_neI, e_eqB, e_isN0, e_isN1, e_isN2, e_isN3, e_notN0, e_notN1, e_notN2, e_notN3, e_int, e_intB, e_max, e_min, e_neg, e_bits, e_lenL, e_lenT, e_lenS, e_ixL, e_ixT, e_ixS, e_at0, e_at1, e_at2, e_map, e_lstOf, e_lstOfS, e_seqOf, e_seqOfT, e_seqOfS, e_isiIB, e_isiII, e_isiTT, e_isiLL, i0, c, e0, e, ll, show d + 1 ≤ LINE by show d + 1 ≤ 16777216; omega, -e_ixT]
end SM
namespace SM
open PySem PySem.Spec DL
open PyProof.Rows hiding St
theorem req_height (h : Nat) (h1 : 1 ≤ h) (h2 : h ≤ 100) : m_require_height [.int h] = .ok (.none, false) [] := by
  have a1 : (1 : Int) ≤ h := by omega
  have a2 : (h : Int) ≤ 100 := by omega
  simp [m_require_height, b_require_height, is_whole_int, e_tUnl, e_ext, e_ext0, e_ext1, e_ext2, e_dix, e_dix1, e_dix2, e_look, e_rev, e_rev1, e_lr1, e_lr11, e_isE1, e_isE2, e_isE3, e_isE4, e_isE5, e_isE6, e_try, e_try1, e_try2, e_eqAS, e_neAS, e_eqAI, e_neAI, e_bind_ok, e_bind_exc, e_bind_stk, e_var, e_var1, e_var2, e_move, e_move1, e_move2, e_C, e_fin1, e_bin, e_bin1, e_bin2, e_chain, e_chain1, e_chain2, e_chain3, e_chain4, e_chain5, e_if, e_if1, e_if2, e_tv, e_tv1, e_notT, e_notT1, e_andT, e_andT1, e_andT2, e_orT, e_orT1, e_orT2, e_andV, e_andV1, e_andV2, e_orV, e_orV1, e_orV2, e_notV, e_notV1, e_aNil, e_aCons, e_aCons1, e_aCons2, e_star, e_star1, e_star2, e_star3, e_lst, e_lst1, e_tup, e_tup1, e_call, e_call1, e_slot, e_slot1, e_sb, e_sb0, e_sb1, e_sb2, e_sb3, e_bs, e_bs1, e_bs2, e_lenV, e_lenV1, e_un, e_un1, e_def, e_def1, e_def2, e_def3, e_fix0, e_fix1, e_fix2, e_def4, e_def0, e_def01, e_jNil, e_jVal, e_jVal1, e_j2, e_jIo, e_jIo1, e_itD0, e_itD1, e_itD2, e_itD3, e_itJ0, e_itJ1, e_itJ2, e_itP0, e_itP1, e_itP2, e_setMany0, e_setMany1, e_nodup0, e_nodup1, e_noPart, e_part, e_part1, e_slice, e_slice1, e_slice2, e_slice3, e_lstRg, e_lstRg1, e_lstRg2, e_iSeq, e_iSeq1, e_iSeq2, e_iEn, e_iEn1, e_iEn2, e_iR1, e_iR11, e_iR2, e_iR21, e_yes, e_lc, e_lc1, e_lc2, e_wipe0, e_wipe1, e_back0, e_back1, e_back2, e_noneOwn0, e_noneOwn1, e_noneOwn2, e_noneOwn3, e_noneOwn4, e_name, e_set, e_tNil, e_tCons, e_tCons1, e_tTup, e_seq, e_seq1, e_seq2, e_seq3, e_seq4, e_seq5, e_next, e_break, e_cont, e_expr, e_expr1, e_ret, e_ret1, e_sIf, e_sIf1, e_sIf2, e_asg, e_asg1, e_asg2, e_aug, e_aug0, e_aug1, e_aug2, e_aug3, e_par, e_par1, e_par2, e_app, e_app0, e_app1, e_app2, e_setIx, e_setIx0, e_setIx1, e_setIx2, e_setIx3, e_setIx4, e_match, e_match1, e_mCase, e_mAny, e_raise, e_for, e_body, e_body1, e_body2, e_body3, e_body4, e_body5, e_outs0, e_outs1, e_outs2, e_start0, e_start1, e_addI, e_addL, e_addI2, e_sub, e_cmp, e_eqI, e_neI, e_eqB, e_isN0, e_isN1, e_isN2, e_isN3, e_notN0, e_notN1, e_notN2, e_notN3, e_int, e_intB, e_max, e_min, e_neg, e_bits, e_lenL, e_lenT, e_lenS, e_ixL, e_ixT, e_ixS, e_at0, e_at1, e_at2, e_map, e_lstOf, e_lstOfS, e_seqOf, e_seqOfT, e_seqOfS, e_isiIB, e_isiII, e_isiTT, e_isiLL, a1, a2]
end SM
namespace SM
open PySem PySem.Spec DL
open PyProof.Rows hiding St
theorem spot_gen (k : Str) (h d n : Nat) (num : Int) (ws : Nat → Int) (hs : m_sums_of [.str k, .int h, .int d] = .ok (.tuple [.int num, .list (wsD d ws)], false) []) :
    m_spot_of [.str k, .int h, nd d n] = .ok (.int (num + psum d n ws d), false) [] := by
  have key := forD_inv (tgt := gtTup (gtCons (gtName [] 7) (gtCons (gtName [] 8) gtNil))) (body := lb_spot_of_1)
    (ds := enumD 0 (wsD d ws)) (δ := [some (false, .str k), some (false, .int h), some (false, .tuple [.int d, .int n]), some (false, .int d), some (false, .int n), some (false, .int num), some (false, .list (wsD d ws)), none, none])
    (fun i δ => ∃ x7 x8, δ = [some (false, .str k), some (false, .int h), some (false, .tuple [.int d, .int n]), some (false, .int d), some (false, .int n), some (false, .int (num + psum d n ws i)), some (false, .list (wsD d ws)), x7, x8])
    ⟨none, none, by simp [psum]⟩ ?_
  · obtain ⟨δ', h1, x7, x8, h2⟩ := key
    rw [enumD_len, wsD_len] at h2
    simp [m_spot_of, b_spot_of, nd, e_tUnl, e_ext, e_ext0, e_ext1, e_ext2, e_dix, e_dix1, e_dix2, e_look, e_rev, e_rev1, e_lr1, e_lr11, e_isE1, e_isE2, e_isE3, e_isE4, e_isE5, e_isE6, e_try, e_try1, e_try2, e_eqAS, e_neAS, e_eqAI, e_neAI, e_bind_ok, e_bind_exc, e_bind_stk, e_var, e_var1, e_var2, e_move, e_move1, e_move2, e_C, e_fin1, e_bin, e_bin1, e_bin2, e_chain, e_chain1, e_chain2, e_chain3, e_chain4, e_chain5, e_if, e_if1, e_if2, e_tv, e_tv1, e_notT, e_notT1, e_andT, e_andT1, e_andT2, e_orT, e_orT1, e_orT2, e_andV, e_andV1, e_andV2, e_orV, e_orV1, e_orV2, e_notV, e_notV1, e_aNil, e_aCons, e_aCons1, e_aCons2, e_star, e_star1, e_star2, e_star3, e_lst, e_lst1, e_tup, e_tup1, e_call, e_call1, e_slot, e_slot1, e_sb, e_sb0, e_sb1, e_sb2, e_sb3, e_bs, e_bs1, e_bs2, e_lenV, e_lenV1, e_un, e_un1, e_def, e_def1, e_def2, e_def3, e_fix0, e_fix1, e_fix2, e_def4, e_def0, e_def01, e_jNil, e_jVal, e_jVal1, e_j2, e_jIo, e_jIo1, e_itD0, e_itD1, e_itD2, e_itD3, e_itJ0, e_itJ1, e_itJ2, e_itP0, e_itP1, e_itP2, e_setMany0, e_setMany1, e_nodup0, e_nodup1, e_noPart, e_part, e_part1, e_slice, e_slice1, e_slice2, e_slice3, e_lstRg, e_lstRg1, e_lstRg2, e_iSeq, e_iSeq1, e_iSeq2, e_iEn, e_iEn1, e_iEn2, e_iR1, e_iR11, e_iR2, e_iR21, e_yes, e_lc, e_lc1, e_lc2, e_wipe0, e_wipe1, e_back0, e_back1, e_back2, e_noneOwn0, e_noneOwn1, e_noneOwn2, e_noneOwn3, e_noneOwn4, e_name, e_set, e_tNil, e_tCons, e_tCons1, e_tTup, e_seq, e_seq1, e_seq2, e_seq3, e_seq4, e_seq5, e_next, e_break, e_cont, e_expr, e_expr1, e_ret, e_ret1, e_sIf, e_sIf1, e_sIf2, e_asg, e_asg1, e_asg2, e_aug, e_aug0, e_aug1, e_aug2, e_aug3, e_par, e_par1, e_par2, e_app, e_app0, e_app1, e_app2, e_setIx, e_setIx0, e_setIx1, e_setIx2, e_setIx3, e_setIx4, e_match, e_match1, e_mCase, e_mAny, e_raise, e_for, e_body, e_body1, e_body2, e_body3, e_body4, e_body5, e_outs0, e_outs1, e_outs2, e_start0, e_start1, e_addI, e_addL, e_addI2, e_sub, e_cmp, e_eqI, e_neI, e_eqB, e_isN0, e_isN1, e_isN2, e_isN3, e_notN0, e_notN1, e_notN2, e_notN3, e_int, e_intB, e_max, e_min, e_neg, e_bits, e_lenL, e_lenT, e_lenS, e_ixL, e_ixT, e_ixS, e_at0, e_at1, e_at2, e_map, e_lstOf, e_lstOfS, e_seqOf, e_seqOfT, e_seqOfS, e_isiIB, e_isiII, e_isiTT, e_isiLL, hs, h1, h2]
  · rintro i x δ hx ⟨x7, x8, rfl⟩
    rw [enumD_get] at hx
    obtain ⟨y, hy, rfl⟩ := Option.map_eq_some_iff.mp hx
    obtain ⟨hi, rfl⟩ := wsD_get hy
    have e1 : dShr (.int n) (.int ((d : Int) - 1 - (i : Int))) = some (.int ((n : Int) / 2 ^ (d - 1 - i)), false) := by
      rw [dShr_ok (by omega), show ((d : Int) - 1 - (i : Int)).toNat = d - 1 - i by omega]
    have e2 : dAnd (.int ((n : Int) / 2 ^ (d - 1 - i))) (.int 1) = some (.int ((bt n (d - 1 - i) : Nat) : Int), false) := by
      have z : (n : Int) / 2 ^ (d - 1 - i) = ((n / 2 ^ (d - 1 - i) : Nat) : Int) := by simp
      have := Bits.bitAnd_mask 1 (x := ((n / 2 ^ (d - 1 - i) : Nat) : Int)) (Int.natCast_nonneg _)
      show some (PyData.int (Builtin.bitAnd _ 1), false) = _
      rw [z, show (1 : Int) = 2 ^ 1 - 1 by rfl, this]
      unfold bt
      simp
    have b01 : bt n (d - 1 - i) = 0 ∨ bt n (d - 1 - i) = 1 := by unfold bt; omega
    rcases b01 with b | b
    · rw [b] at e2
      simp only [Int.natCast_zero, Int.natCast_one] at e2
      refine ⟨_, by simp [e_tUnl, e_ext, e_ext0, e_ext1, e_ext2, e_dix, e_dix1, e_dix2, e_look, e_rev, e_rev1, e_lr1, e_lr11, e_isE1, e_isE2, e_isE3, e_isE4, e_isE5, e_isE6, e_try, e_try1, e_try2, e_eqAS, e_neAS, e_eqAI, e_neAI, e_bind_ok, e_bind_exc, e_bind_stk, e_var, e_var1, e_var2, e_move, e_move1, e_move2, e_C, e_fin1, e_bin, e_bin1, e_bin2, e_chain, e_chain1, e_chain2, e_chain3, e_chain4, e_chain5, e_if, e_if1, e_if2, e_tv, e_tv1, e_notT, e_notT1, e_andT, e_andT1, e_andT2, e_orT, e_orT1, e_orT2, e_andV, e_andV1, e_andV2, e_orV, e_orV1, e_orV2, e_notV, e_notV1, e_aNil, e_aCons, e_aCons1, e_aCons2, e_star, e_star1, e_star2, e_star3, e_lst, e_lst1, e_tup, e_tup1, e_call, e_call1, e_slot, e_slot1, e_sb, e_sb0, e_sb1, e_sb2, e_sb3, e_bs, e_bs1, e_bs2, e_lenV, e_lenV1, e_un, e_un1, e_def, e_def1, e_def2, e_def3, e_fix0, e_fix1, e_fix2, e_def4, e_def0, e_def01, e_jNil, e_jVal, e_jVal1, e_j2, e_jIo, e_jIo1, e_itD0, e_itD1, e_itD2, e_itD3, e_itJ0, e_itJ1, e_itJ2, e_itP0, e_itP1, e_itP2, e_setMany0, e_setMany1, e_nodup0, e_nodup1, e_noPart, e_part, e_part1, e_slice, e_slice1, e_slice2, e_slice3, e_lstRg, e_lstRg1, e_lstRg2, e_iSeq, e_iSeq1, e_iSeq2, e_iEn, e_iEn1, e_iEn2, e_iR1, e_iR11, e_iR2, e_iR21, e_yes, e_lc, e_lc1, e_lc2, e_wipe0, e_wipe1, e_back0, e_back1, e_back2, e_noneOwn0, e_noneOwn1, e_noneOwn2, e_noneOwn3, e_noneOwn4, e_name, e_set, e_tNil, e_tCons, e_tCons1, e_tTup, e_seq, e_seq1, e_seq2, e_seq3, e_seq4, e_seq5, e_next, e_break, e_cont, e_expr, e_expr1, e_ret, e_ret1, e_sIf, e_sIf1, e_sIf2, e_asg, e_asg1, e_asg2, e_aug, e_aug0, e_aug1, e_aug2, e_aug3, e_par, e_par1, e_par2, e_app, e_app0, e_app1, e_app2, e_setIx, e_setIx0, e_setIx1, e_setIx2, e_setIx3, e_setIx4, e_match, e_match1, e_mCase, e_mAny, e_raise, e_for, e_body, e_body1, e_body2, e_body3, e_body4, e_body5, e_outs0, e_outs1, e_outs2, e_start0, e_start1, e_addI, e_addL, e_addI2, e_sub, e_cmp, e_eqI, e_neI, e_eqB, e_isN0, e_isN1, e_isN2, e_isN3, e_notN0, e_notN1, e_notN2, e_notN3, e_int, e_intB, e_max, e_min, e_neg, e_bits, e_lenL, e_lenT, e_lenS, e_ixL, e_ixT, e_ixS, e_at0, e_at1, e_at2, e_map, e_lstOf, e_lstOfS, e_seqOf, e_seqOfT, e_seqOfS, e_isiIB, e_isiII, e_isiTT, e_isiLL]; rfl, _, by simp [lb_spot_of_1, e_tUnl, e_ext, e_ext0, e_ext1, e_ext2, e_dix, e_dix1, e_dix2, e_look, e_rev, e_rev1, e_lr1, e_lr11, e_isE1, e_isE2, e_isE3, e_isE4, e_isE5, e_isE6, e_try, e_try1, e_try2, e_eqAS, e_neAS, e_eqAI, e_neAI, e_bind_ok, e_bind_exc, e_bind_stk, e_var, e_var1, e_var2, e_move, e_move1, e_move2, e_C, e_fin1, e_bin, e_bin1, e_bin2, e_chain, e_chain1, e_chain2, e_chain3, e_chain4, e_chain5, e_if, e_if1, e_if2, e_tv, e_tv1, e_notT, e_notT1, e_andT, e_andT1, e_andT2, e_orT, e_orT1, e_orT2, e_andV, e_andV1, e_andV2, e_orV, e_orV1, e_orV2, e_notV, e_notV1, e_aNil, e_aCons, e_aCons1, e_aCons2, e_star, e_star1, e_star2, e_star3, e_lst, e_lst1, e_tup, e_tup1, e_call, e_call1, e_slot, e_slot1, e_sb, e_sb0, e_sb1, e_sb2, e_sb3, e_bs, e_bs1, e_bs2, e_lenV, e_lenV1, e_un, e_un1, e_def, e_def1, e_def2, e_def3, e_fix0, e_fix1, e_fix2, e_def4, e_def0, e_def01, e_jNil, e_jVal, e_jVal1, e_j2, e_jIo, e_jIo1, e_itD0, e_itD1, e_itD2, e_itD3, e_itJ0, e_itJ1, e_itJ2, e_itP0, e_itP1, e_itP2, e_setMany0, e_setMany1, e_nodup0, e_nodup1, e_noPart, e_part, e_part1, e_slice, e_slice1, e_slice2, e_slice3, e_lstRg, e_lstRg1, e_lstRg2, e_iSeq, e_iSeq1, e_iSeq2, e_iEn, e_iEn1, e_iEn2, e_iR1, e_iR11, e_iR2, e_iR21, e_yes, e_lc, e_lc1, e_lc2, e_wipe0, e_wipe1, e_back0, e_back1, e_back2, e_noneOwn0, e_noneOwn1, e_noneOwn2, e_noneOwn3, e_noneOwn4, e_name, e_set, e_tNil, e_tCons, e_tCons1, e_tTup, e_seq, e_seq1, e_seq2, e_seq3, e_seq4, e_seq5, e_next, e_break, e_cont, e_expr, e_expr1, e_ret, e_ret1, e_sIf, e_sIf1, e_sIf2, e_asg, e_asg1, e_asg2, e_aug, e_aug0, e_aug1, e_aug2, e_aug3, e_par, e_par1, e_par2, e_app, e_app0, e_app1, e_app2, e_setIx, e_setIx0, e_setIx1, e_setIx2, e_setIx3, e_setIx4, e_match, e_match1, e_mCase, e_mAny, e_raise, e_for, e_body, e_body1, e_body2, e_body3, e_body4, e_body5, e_outs0, e_outs1, e_outs2, e_start0, e_start1, e_addI, e_addL, e_addI2, e_sub, e_cmp, e_eqI, e_neI, e_eqB, e_isN0, e_isN1, e_isN2, e_isN3, e_notN0, e_notN1, e_notN2, e_notN3, e_int, e_intB, e_max, e_min, e_neg, e_bits, e_lenL, e_lenT, e_lenS, e_ixL, e_ixT, e_ixS, e_at0, e_at1, e_at2, e_map, e_lstOf, e_lstOfS, e_seqOf, e_seqOfT, e_seqOfS, e_isiIB, e_isiII, e_isiTT, e_isiLL, e1, e2]; rfl, ?_⟩
      exact ⟨some (false, .int i), some (false, .int (ws i)), by simp [psum, b]⟩
    · rw [b] at e2
      simp only [Int.natCast_zero, Int.natCast_one] at e2
      refine ⟨_, by simp [e_tUnl, e_ext, e_ext0, e_ext1, e_ext2, e_dix, e_dix1, e_dix2, e_look, e_rev, e_rev1, e_lr1, e_lr11, e_isE1, e_isE2, e_isE3, e_isE4, e_isE5, e_isE6, e_try, e_try1, e_try2, e_eqAS, e_neAS, e_eqAI, e_neAI, e_bind_ok, e_bind_exc, e_bind_stk, e_var, e_var1, e_var2, e_move, e_move1, e_move2, e_C, e_fin1, e_bin, e_bin1, e_bin2, e_chain, e_chain1, e_chain2, e_chain3, e_chain4, e_chain5, e_if, e_if1, e_if2, e_tv, e_tv1, e_notT, e_notT1, e_andT, e_andT1, e_andT2, e_orT, e_orT1, e_orT2, e_andV, e_andV1, e_andV2, e_orV, e_orV1, e_orV2, e_notV, e_notV1, e_aNil, e_aCons, e_aCons1, e_aCons2, e_star, e_star1, e_star2, e_star3, e_lst, e_lst1, e_tup, e_tup1, e_call, e_call1, e_slot, e_slot1, e_sb, e_sb0, e_sb1, e_sb2, e_sb3, e_bs, e_bs1, e_bs2, e_lenV, e_lenV1, e_un, e_un1, e_def, e_def1, e_def2, e_def3, e_fix0, e_fix1, e_fix2, e_def4, e_def0, e_def01, e_jNil, e_jVal, e_jVal1, e_j2, e_jIo, e_jIo1, e_itD0, e_itD1, e_itD2, e_itD3, e_itJ0, e_itJ1, e_itJ2, e_itP0, e_itP1, e_itP2, e_setMany0, e_setMany1, e_nodup0, e_nodup1, e_noPart, e_part, e_part1, e_slice, e_slice1, e_slice2, e_slice3, e_lstRg, e_lstRg1, e_lstRg2, e_iSeq, e_iSeq1, e_iSeq2, e_iEn, e_iEn1, e_iEn2, e_iR1, e_iR11, e_iR2, e_iR21, e_yes, e_lc, e_lc1, e_lc2, e_wipe0, e_wipe1, e_back0, e_back1, e_back2, e_noneOwn0, e_noneOwn1, e_noneOwn2, e_noneOwn3, e_noneOwn4, e_name, e_set, e_tNil, e_tCons, e_tCons1, e_tTup, e_seq, e_seq1, e_seq2, e_seq3, e_seq4, e_seq5, e_next, e_break, e_cont, e_expr, e_expr1, e_ret, e_ret1, e_sIf, e_sIf1, e_sIf2, e_asg, e_asg1, e_asg2, e_aug, e_aug0, e_aug1, e_aug2, e_aug3, e_par, e_par1, e_par2, e_app, e_app0, e_app1, e_app2, e_setIx, e_setIx0, e_setIx1, e_setIx2, e_setIx3, e_setIx4, e_match, e_match1, e_mCase, e_mAny, e_raise, e_for, e_body, e_body1, e_body2, e_body3, e_body4, e_body5, e_outs0, e_outs1, e_outs2, e_start0, e_start1, e_addI, e_addL, e_addI2, e_sub, e_cmp, e_eqI, e_neI, e_eqB, e_isN0, e_isN1, e_isN2, e_isN3, e_notN0, e_notN1, e_notN2, e_notN3, e_int, e_intB, e_max, e_min, e_neg, e_bits, e_lenL, e_lenT, e_lenS, e_ixL, e_ixT, e_ixS, e_at0, e_at1, e_at2, e_map, e_lstOf, e_lstOfS, e_seqOf, e_seqOfT, e_seqOfS, e_isiIB, e_isiII, e_isiTT, e_isiLL]; rfl, _, by simp [lb_spot_of_1, e_tUnl, e_ext, e_ext0, e_ext1, e_ext2, e_dix, e_dix1, e_dix2, e_look, e_rev, e_rev1, e_lr1, e_lr11, e_isE1, e_isE2, e_isE3, e_isE4, e_isE5, e_isE6, e_try, e_try1, e_try2, e_eqAS, e_neAS, e_eqAI, e_neAI, e_bind_ok, e_bind_exc, e_bind_stk, e_var, e_var1, e_var2, e_move, e_move1, e_move2, e_C, e_fin1, e_bin, e_bin1, e_bin2, e_chain, e_chain1, e_chain2, e_chain3, e_chain4, e_chain5, e_if, e_if1, e_if2, e_tv, e_tv1, e_notT, e_notT1, e_andT, e_andT1, e_andT2, e_orT, e_orT1, e_orT2, e_andV, e_andV1, e_andV2, e_orV, e_orV1, e_orV2, e_notV, e_notV1, e_aNil, e_aCons, e_aCons1, e_aCons2, e_star, e_star1, e_star2, e_star3, e_lst, e_lst1, e_tup, e_tup1, e_call, e_call1, e_slot, e_slot1, e_sb, e_sb0, e_sb1, e_sb2, e_sb3, e_bs, e_bs1, e_bs2, e_lenV, e_lenV1, e_un, e_un1, e_def, e_def1, e_def2, e_def3, e_fix0, e_fix1, e_fix2, e_def4, e_def0, e_def01, e_jNil, e_jVal, e_jVal1, e_j2, e_jIo, e_jIo1, e_itD0, e_itD1, e_itD2, e_itD3, e_itJ0, e_itJ1, e_itJ2, e_itP0, e_itP1, e_itP2, e_setMany0, e_setMany1, e_nodup0, e_nodup1, e_noPart, e_part, e_part1, e_slice, e_slice1, e_slice2, e_slice3, e_lstRg, e_lstRg1, e_lstRg2, e_iSeq, e_iSeq1, e_iSeq2, e_iEn, e_iEn1, e_iEn2, e_iR1, e_iR11, e_iR2, e_iR21, e_yes, e_lc, e_lc1, e_lc2, e_wipe0, e_wipe1, e_back0, e_back1, e_back2, e_noneOwn0, e_noneOwn1, e_noneOwn2, e_noneOwn3, e_noneOwn4, e_name, e_set, e_tNil, e_tCons, e_tCons1, e_tTup, e_seq, e_seq1, e_seq2, e_seq3, e_seq4, e_seq5, e_next, e_break, e_cont, e_expr, e_expr1, e_ret, e_ret1, e_sIf, e_sIf1, e_sIf2, e_asg, e_asg1, e_asg2, e_aug, e_aug0, e_aug1, e_aug2, e_aug3, e_par, e_par1, e_par2, e_app, e_app0, e_app1, e_app2, e_setIx, e_setIx0, e_setIx1, e_setIx2, e_setIx3, e_setIx4, e_match, e_match1, e_mCase, e_mAny, e_raise, e_for, e_body, e_body1, e_body2, e_body3, e_body4, e_body5, e_outs0, e_outs1, e_outs2, e_start0, e_start1, e_addI, e_addL, e_addI2, e_sub, e_cmp, e_eqI, e_neI, e_eqB, e_isN0, e_isN1, e_isN2, e_isN3, e_notN0, e_notN1, e_notN2, e_notN3, e_int, e_intB, e_max, e_min, e_neg, e_bits, e_lenL, e_lenT, e_lenS, e_ixL, e_ixT, e_ixS, e_at0, e_at1, e_at2, e_map, e_lstOf, e_lstOfS, e_seqOf, e_seqOfT, e_seqOfS, e_isiIB, e_isiII, e_isiTT, e_isiLL, e1, e2]; rfl, ?_⟩
      exact ⟨some (false, .int i), some (false, .int (ws i)), by simp [psum, b, Int.add_assoc]⟩
end SM
namespace SM
open PySem PySem.Spec DL
open PyProof.Rows hiding St
inductive Kd | lev | ino | pre | post | les | gre | pow
deriving DecidableEq
def isCut : Kd → Bool
  | .les | .gre | .pow => true
  | _ => false
def topOf : Kd → Nat → Nat
  | .les, h => h / 2
  | .gre, h => (h + 1) / 2
  | _, h => h - 2 ^ Nat.log2 (h - 1)
theorem topOf_b (k : Kd) (h : Nat) (hh : 2 ≤ h) : 1 ≤ topOf k h ∧ topOf k h < h := by
  have a : 2 ^ Nat.log2 (h - 1) ≤ h - 1 := Nat.log2_self_le (by omega)
  have b := p2pos (Nat.log2 (h - 1))
  cases k <;> simp only [topOf] <;> omega
def cnum (k : Kd) (h d : Nat) : Nat :=
  if c : 2 ≤ h then if d < topOf k h then cnum k (topOf k h) d else 2 ^ topOf k h - 1 + cnum k (h - topOf k h) (d - topOf k h) else 0
termination_by h
decreasing_by
  · exact (topOf_b k h c).2
  · have := (topOf_b k h c).1
    omega
def cws (k : Kd) (h d i : Nat) : Nat :=
  if c : 2 ≤ h then if d < topOf k h then cws k (topOf k h) d i
    else if i < topOf k h then (2 ^ (h - topOf k h) - 1) * 2 ^ (topOf k h - 1 - i) else cws k (h - topOf k h) (d - topOf k h) (i - topOf k h) else 0
termination_by h
decreasing_by
  · exact (topOf_b k h c).2
  · have := (topOf_b k h c).1
    omega
def num : Kd → Nat → Nat → Nat
  | .lev, _, d => 2 ^ d - 1
  | .ino, h, d => 2 ^ (h - 1 - d) - 1
  | .pre, _, d => d
  | .post, h, d => 2 ^ (h - d) - 2
  | k, h, d => cnum k h d
def ws : Kd → Nat → Nat → Nat → Nat
  | .lev, _, d, i => 2 ^ (d - 1 - i)
  | .ino, h, _, i => 2 ^ (h - 1 - i)
  | .pre, h, _, i => 2 ^ (h - 1 - i) - 1
  | .post, h, _, i => 2 ^ (h - 1 - i) - 1
  | k, h, d, i => cws k h d i
def sp (k : Kd) (h d n : Nat) : Nat := num k h d + sN d n (ws k h d) d
theorem num_cut {k : Kd} (hk : isCut k = true) (h d : Nat) : num k h d = cnum k h d := by cases k <;> first | rfl | cases hk
theorem ws_cut {k : Kd} (hk : isCut k = true) (h d : Nat) : ws k h d = cws k h d := by cases k <;> first | rfl | cases hk
theorem num_t {k : Kd} (hk : isCut k = true) {h d : Nat} (hh : 2 ≤ h) (hd : d < topOf k h) : num k h d = num k (topOf k h) d := by
  rw [num_cut hk, num_cut hk, cnum, dif_pos hh, if_pos hd]
theorem num_b {k : Kd} (hk : isCut k = true) {h d : Nat} (hh : 2 ≤ h) (hd : topOf k h ≤ d) : num k h d = 2 ^ topOf k h - 1 + num k (h - topOf k h) (d - topOf k h) := by
  rw [num_cut hk, num_cut hk, cnum, dif_pos hh, if_neg (by omega)]
theorem ws_t {k : Kd} (hk : isCut k = true) {h d : Nat} (hh : 2 ≤ h) (hd : d < topOf k h) (i : Nat) : ws k h d i = ws k (topOf k h) d i := by
  rw [ws_cut hk, ws_cut hk, cws, dif_pos hh, if_pos hd]
theorem ws_b1 {k : Kd} (hk : isCut k = true) {h d i : Nat} (hh : 2 ≤ h) (hd : topOf k h ≤ d) (hi : i < topOf k h) : ws k h d i = (2 ^ (h - topOf k h) - 1) * 2 ^ (topOf k h - 1 - i) := by
  rw [ws_cut hk, cws, dif_pos hh, if_neg (by omega), if_pos hi]
theorem ws_b2 {k : Kd} (hk : isCut k = true) {h d i : Nat} (hh : 2 ≤ h) (hd : topOf k h ≤ d) (hi : topOf k h ≤ i) : ws k h d i = ws k (h - topOf k h) (d - topOf k h) (i - topOf k h) := by
  rw [ws_cut hk, ws_cut hk, cws, dif_pos hh, if_neg (by omega), if_neg (by omega)]
theorem num_1 {k : Kd} (hk : isCut k = true) {h d : Nat} (hh : h ≤ 1) : num k h d = 0 := by
  rw [num_cut hk, cnum, dif_neg (by omega)]
theorem sp_lev (h d n : Nat) (hn : n < 2 ^ d) : sp .lev h d n = 2 ^ d - 1 + n := by
  have := sN_geo d n 1 hn
  simp only [Nat.one_mul] at this
  unfold sp
  rw [show num .lev h d = 2 ^ d - 1 from rfl]
  rw [show ws .lev h d = fun i => 2 ^ (d - 1 - i) from rfl, this]
theorem sp_cut_t {k : Kd} (hk : isCut k = true) {h d : Nat} (n : Nat) (hh : 2 ≤ h) (hd : d < topOf k h) : sp k h d n = sp k (topOf k h) d n := by
  unfold sp
  rw [num_t hk hh hd, sN_congr d n d (fun j _ => ws_t hk hh hd j)]
theorem sp_cut_b {k : Kd} (hk : isCut k = true) {h d : Nat} (n : Nat) (hh : 2 ≤ h) (hd : topOf k h ≤ d) (hn : n < 2 ^ d) :
    sp k h d n = 2 ^ topOf k h - 1 + n / 2 ^ (d - topOf k h) * (2 ^ (h - topOf k h) - 1) + sp k (h - topOf k h) (d - topOf k h) (n % 2 ^ (d - topOf k h)) := by
  unfold sp
  rw [num_b hk hh hd, sN_split d n (topOf k h) hd]
  rw [sN_congr (topOf k h) (n / 2 ^ (d - topOf k h)) (topOf k h) (fun j hj => ws_b1 hk hh hd hj)]
  rw [sN_geo _ _ _ (div_lt_p hn hd)]
  rw [sN_congr (ws := fun i => ws k h d (topOf k h + i)) (ws' := ws k (h - topOf k h) (d - topOf k h)) (d - topOf k h) (n % 2 ^ (d - topOf k h)) (d - topOf k h) (fun j _ => by rw [ws_b2 hk hh hd (by omega)]; congr 1; omega)]
  rw [Nat.mul_comm (2 ^ (h - topOf k h) - 1)]
  omega
theorem sp_pre (h d n : Nat) (hd : 1 ≤ d) (hn : n < 2 ^ d) : sp .pre h d n = 1 + n / 2 ^ (d - 1) * (2 ^ (h - 1) - 1) + sp .pre (h - 1) (d - 1) (n % 2 ^ (d - 1)) := by
  unfold sp
  rw [sN_first d n hd hn]
  rw [sN_congr (ws := fun i => ws .pre h d (1 + i)) (ws' := ws .pre (h - 1) (d - 1)) (d - 1) (n % 2 ^ (d - 1)) (d - 1) (fun j _ => by show 2 ^ (h - 1 - (1 + j)) - 1 = 2 ^ (h - 1 - 1 - j) - 1; congr 2; omega)]
  rw [show ws .pre h d 0 = 2 ^ (h - 1) - 1 from rfl, show num .pre h d = d from rfl, show num .pre (h - 1) (d - 1) = d - 1 from rfl]
  omega
theorem sp_ino (h d n : Nat) (hd : 1 ≤ d) (hn : n < 2 ^ d) : sp .ino h d n = n / 2 ^ (d - 1) * 2 ^ (h - 1) + sp .ino (h - 1) (d - 1) (n % 2 ^ (d - 1)) := by
  unfold sp
  rw [sN_first d n hd hn]
  rw [sN_congr (ws := fun i => ws .ino h d (1 + i)) (ws' := ws .ino (h - 1) (d - 1)) (d - 1) (n % 2 ^ (d - 1)) (d - 1) (fun j _ => by show 2 ^ (h - 1 - (1 + j)) = 2 ^ (h - 1 - 1 - j); congr 1; omega)]
  rw [show ws .ino h d 0 = 2 ^ (h - 1) from rfl, show num .ino h d = 2 ^ (h - 1 - d) - 1 from rfl, show num .ino (h - 1) (d - 1) = 2 ^ (h - 1 - 1 - (d - 1)) - 1 from rfl, show h - 1 - 1 - (d - 1) = h - 1 - d by omega]
  omega
theorem sp_post (h d n : Nat) (hd : 1 ≤ d) (hn : n < 2 ^ d) : sp .post h d n = n / 2 ^ (d - 1) * (2 ^ (h - 1) - 1) + sp .post (h - 1) (d - 1) (n % 2 ^ (d - 1)) := by
  unfold sp
  rw [sN_first d n hd hn]
  rw [sN_congr (ws := fun i => ws .post h d (1 + i)) (ws' := ws .post (h - 1) (d - 1)) (d - 1) (n % 2 ^ (d - 1)) (d - 1) (fun j _ => by show 2 ^ (h - 1 - (1 + j)) - 1 = 2 ^ (h - 1 - 1 - j) - 1; congr 2; omega)]
  rw [show ws .post h d 0 = 2 ^ (h - 1) - 1 from rfl, show num .post h d = 2 ^ (h - d) - 2 from rfl, show num .post (h - 1) (d - 1) = 2 ^ (h - 1 - (d - 1)) - 2 from rfl, show h - 1 - (d - 1) = h - d by omega]
  omega
theorem bij_0 (s : Nat → Nat → Nat) : Bij 0 s where
  lt := by intro d n h; omega
  on := by intro p h; simp at h
  inj := by intro d n d' n' h; omega
theorem bij_1 {s : Nat → Nat → Nat} (h : s 0 0 = 0) : Bij 1 s where
  lt := by
    intro d n h1 h2
    have e : d = 0 := by omega
    subst e
    have e : n = 0 := by omega
    subst e
    rw [h]
    decide
  on := by
    intro p hp
    exact ⟨0, 0, by omega, by decide, by rw [h]; omega⟩
  inj := by
    intro d n d' n' h1 h2 h3 h4 _
    have e : d = 0 := by omega
    have e' : d' = 0 := by omega
    subst e e'
    constructor <;> omega
theorem bij_lev (h : Nat) : Bij h (sp .lev h) where
  lt := by
    intro d n hd hn
    rw [sp_lev h d n hn]
    have : 2 ^ (d + 1) ≤ 2 ^ h := Nat.pow_le_pow_right (by omega) hd
    rw [Nat.pow_succ] at this
    omega
  on := by
    intro p hp
    have a : 2 ^ Nat.log2 (p + 1) ≤ p + 1 := Nat.log2_self_le (by omega)
    have b : p + 1 < 2 ^ (Nat.log2 (p + 1) + 1) := Nat.lt_log2_self
    rw [Nat.pow_succ] at b
    refine ⟨Nat.log2 (p + 1), p + 1 - 2 ^ Nat.log2 (p + 1), ?_, by omega, ?_⟩
    · exact (Nat.log2_lt (by omega)).mpr hp
    · rw [sp_lev _ _ _ (by omega)]
      have := p2pos (Nat.log2 (p + 1))
      omega
  inj := by
    intro d n d' n' hd hn hd' hn' e
    rw [sp_lev h d n hn, sp_lev h d' n' hn'] at e
    have p1 := p2pos d
    have p2 := p2pos d'
    rcases Nat.lt_trichotomy d d' with c | c | c
    · have : 2 ^ (d + 1) ≤ 2 ^ d' := Nat.pow_le_pow_right (by omega) c
      rw [Nat.pow_succ] at this
      omega
    · subst c
      exact ⟨rfl, by omega⟩
    · have : 2 ^ (d' + 1) ≤ 2 ^ d := Nat.pow_le_pow_right (by omega) c
      rw [Nat.pow_succ] at this
      omega
theorem pow_split {h t : Nat} (ht : t ≤ h) : 2 ^ h = 2 ^ t * 2 ^ (h - t) := by rw [← Nat.pow_add]; congr 1; omega
theorem bij_kd (k : Kd) : ∀ h, Bij h (sp k h) := by
  intro h
  induction h using Nat.strongRecOn with
  | ind h ih =>
  by_cases h0 : h = 0
  · subst h0; exact bij_0 _
  by_cases hc : isCut k = true
  · by_cases h1 : h = 1
    · subst h1
      exact bij_1 (by unfold sp; rw [num_1 hc (by omega)]; rfl)
    · obtain ⟨t1, t2⟩ := topOf_b k h (by omega)
      have q1 := p2pos (topOf k h)
      have q2 := p2pos (h - topOf k h)
      have q3 := pow_split (t := topOf k h) (h := h) (by omega)
      refine bij_cut (h := h) (t := topOf k h) (s1 := sp k (topOf k h)) (s2 := sp k (h - topOf k h)) (f := fun q => q) (g := fun j => 2 ^ topOf k h - 1 + j * (2 ^ (h - topOf k h) - 1)) t2 (ih _ t2) (ih _ (by omega)) ?_ ?_ ?_ ?_ ?_ ?_ ?_ ?_
      · intro d n hd hn
        exact sp_cut_t hc n (by omega) hd
      · intro d n hd _ hn
        exact sp_cut_b hc n (by omega) hd hn
      all_goals
        generalize topOf k h = t at *
        generalize 2 ^ t = T at *
        generalize 2 ^ (h - t) = N at *
        generalize 2 ^ h = H at *
      · intro q hq
        have : T * 1 ≤ T * N := Nat.mul_le_mul_left _ q2
        try dsimp only
        omega
      · intro j r hj hr
        try dsimp only
        obtain ⟨M, rfl⟩ : ∃ M, N = M + 1 := ⟨N - 1, by omega⟩
        rw [Nat.mul_add, Nat.mul_one] at q3
        have : (j + 1) * M ≤ T * M := Nat.mul_le_mul_right _ hj
        rw [Nat.add_mul, Nat.one_mul] at this
        rw [show M + 1 - 1 = M by omega]
        omega
      · intro q q' _ _ e; exact e
      · intro q j r hq _ _
        try dsimp only
        generalize j * (N - 1) = z
        omega
      · intro j r j' r' hj hr hj' hr' e
        try dsimp only at e
        have e : (N - 1) * j + r = (N - 1) * j' + r' := by rw [Nat.mul_comm (N - 1) j, Nat.mul_comm (N - 1) j']; omega
        have a1 : ((N - 1) * j + r) / (N - 1) = j := by rw [Nat.mul_add_div (by omega), Nat.div_eq_of_lt (by omega), Nat.add_zero]
        have a2 : ((N - 1) * j' + r') / (N - 1) = j' := by rw [Nat.mul_add_div (by omega), Nat.div_eq_of_lt (by omega), Nat.add_zero]
        rw [e, a2] at a1
        subst a1
        exact ⟨rfl, by omega⟩
      · intro p hp
        by_cases c : p + 1 < T
        · exact .inl ⟨p, c, rfl⟩
        · refine .inr ⟨(p + 1 - T) / (N - 1), (p + 1 - T) % (N - 1), ?_, ?_, ?_⟩
          · have hN : 1 < N := by
              refine Nat.lt_of_not_le fun z => ?_
              have : N = 1 := by omega
              subst this
              rw [Nat.mul_one] at q3
              omega
            rw [Nat.div_lt_iff_lt_mul (by omega)]
            obtain ⟨M, rfl⟩ : ∃ M, N = M + 1 := ⟨N - 1, by omega⟩
            rw [Nat.mul_add, Nat.mul_one] at q3
            rw [show M + 1 - 1 = M by omega]
            omega
          · have hN : 1 < N := by
              refine Nat.lt_of_not_le fun z => ?_
              have : N = 1 := by omega
              subst this
              rw [Nat.mul_one] at q3
              omega
            have := Nat.mod_lt (p + 1 - T) (show 0 < N - 1 by omega)
            omega
          · have := Nat.div_add_mod (p + 1 - T) (N - 1)
            rw [Nat.mul_comm] at this
            try dsimp only
            omega
  · have hp : 2 ^ h = 2 ^ (h - 1) * 2 := p2s (by omega)
    have q1 := p2pos (h - 1)
    have top1 : ∀ {d n : Nat}, d < 1 → n < 2 ^ d → d = 0 ∧ n = 0 := by
      intro d n hd hn
      have : d = 0 := by omega
      subst this
      exact ⟨rfl, by omega⟩
    have b1 : Bij 1 (sp .pre 1) := bij_1 rfl
    have z1 : sp .pre 1 0 0 = 0 := rfl
    cases k with
    | lev => exact bij_lev h
    | pre =>
      by_cases h1 : h = 1
      · subst h1; exact bij_1 rfl
      refine bij_cut (h := h) (t := 1) (s1 := sp .pre 1) (s2 := sp .pre (h - 1)) (f := fun q => 0) (g := fun j => 1 + j * (2 ^ (h - 1) - 1)) (by omega) b1 (ih _ (by omega)) ?_ ?_ ?_ ?_ ?_ ?_ ?_ ?_
      · intro d n hd hn
        obtain ⟨rfl, rfl⟩ := top1 hd hn
        rfl
      · intro d n hd _ hn
        exact sp_pre h d n hd hn
      all_goals
        try dsimp only
        generalize 2 ^ (h - 1) = N at *
        generalize 2 ^ h = H at *
      · intro q _; omega
      · intro j r hj hr
        have : j = 0 ∨ j = 1 := by omega
        rcases this with rfl | rfl <;> omega
      · intro q q' _ _ _; omega
      · intro q j r _ _ _
        generalize j * (N - 1) = z
        omega
      · intro j r j' r' hj hr hj' hr' e
        have : j = 0 ∨ j = 1 := by omega
        have : j' = 0 ∨ j' = 1 := by omega
        rcases ‹j = 0 ∨ j = 1› with rfl | rfl <;> rcases ‹j' = 0 ∨ j' = 1› with rfl | rfl <;> omega
      · intro p hp
        by_cases c : p = 0
        · exact .inl ⟨0, by omega, c.symm⟩
        · by_cases c2 : p < N
          · exact .inr ⟨0, p - 1, by omega, by omega, by omega⟩
          · exact .inr ⟨1, p - N, by omega, by omega, by omega⟩
    | ino =>
      by_cases h1 : h = 1
      · subst h1; exact bij_1 rfl
      refine bij_cut (h := h) (t := 1) (s1 := sp .pre 1) (s2 := sp .ino (h - 1)) (f := fun q => 2 ^ (h - 1) - 1) (g := fun j => j * 2 ^ (h - 1)) (by omega) b1 (ih _ (by omega)) ?_ ?_ ?_ ?_ ?_ ?_ ?_ ?_
      · intro d n hd hn
        obtain ⟨rfl, rfl⟩ := top1 hd hn
        rfl
      · intro d n hd _ hn
        exact sp_ino h d n hd hn
      all_goals
        try dsimp only
        generalize 2 ^ (h - 1) = N at *
        generalize 2 ^ h = H at *
      · intro q _; omega
      · intro j r hj hr
        have : j = 0 ∨ j = 1 := by omega
        rcases this with rfl | rfl <;> omega
      · intro q q' _ _ _; omega
      · intro q j r _ hj _
        have : j = 0 ∨ j = 1 := by omega
        rcases this with rfl | rfl <;> omega
      · intro j r j' r' hj hr hj' hr' e
        have : j = 0 ∨ j = 1 := by omega
        have : j' = 0 ∨ j' = 1 := by omega
        rcases ‹j = 0 ∨ j = 1› with rfl | rfl <;> rcases ‹j' = 0 ∨ j' = 1› with rfl | rfl <;> omega
      · intro p hp
        by_cases c : p = N - 1
        · exact .inl ⟨0, by omega, c.symm⟩
        · by_cases c2 : p < N
          · exact .inr ⟨0, p, by omega, by omega, by omega⟩
          · exact .inr ⟨1, p - N, by omega, by omega, by omega⟩
    | post =>
      by_cases h1 : h = 1
      · subst h1; exact bij_1 rfl
      refine bij_cut (h := h) (t := 1) (s1 := sp .pre 1) (s2 := sp .post (h - 1)) (f := fun q => 2 ^ h - 2) (g := fun j => j * (2 ^ (h - 1) - 1)) (by omega) b1 (ih _ (by omega)) ?_ ?_ ?_ ?_ ?_ ?_ ?_ ?_
      · intro d n hd hn
        obtain ⟨rfl, rfl⟩ := top1 hd hn
        rfl
      · intro d n hd _ hn
        exact sp_post h d n hd hn
      all_goals
        try dsimp only
        generalize 2 ^ (h - 1) = N at *
        generalize 2 ^ h = H at *
      · intro q _; omega
      · intro j r hj hr
        have : j = 0 ∨ j = 1 := by omega
        rcases this with rfl | rfl <;> omega
      · intro q q' _ _ _; omega
      · intro q j r _ hj _
        have : j = 0 ∨ j = 1 := by omega
        rcases this with rfl | rfl <;> omega
      · intro j r j' r' hj hr hj' hr' e
        have : j = 0 ∨ j = 1 := by omega
        have : j' = 0 ∨ j' = 1 := by omega
        rcases ‹j = 0 ∨ j = 1› with rfl | rfl <;> rcases ‹j' = 0 ∨ j' = 1› with rfl | rfl <;> omega
      · intro p hp
        by_cases c : p = H - 2
        · exact .inl ⟨0, by omega, c.symm⟩
        · by_cases c2 : p < N - 1
          · exact .inr ⟨0, p, by omega, by omega, by omega⟩
          · exact .inr ⟨1, p - (N - 1), by omega, by omega, by omega⟩
    | les => exact absurd rfl hc
    | gre => exact absurd rfl hc
    | pow => exact absurd rfl hc
theorem fall_kd (k : Kd) : ∀ h d, d < h → ∃ B, Fall d (ws k h d) B ∧ B 0 + 1 ≤ 2 ^ h := by
  intro h
  induction h using Nat.strongRecOn with
  | ind h ih =>
  intro d hd
  by_cases hc : isCut k = true
  · by_cases h1 : h = 1
    · subst h1
      have : d = 0 := by omega
      subst this
      exact ⟨fun _ => 1, ⟨Nat.le_refl _, fun i hi => absurd hi (by omega)⟩, by decide⟩
    · obtain ⟨t1, t2⟩ := topOf_b k h (by omega)
      by_cases c : d < topOf k h
      · obtain ⟨B, f, b⟩ := ih _ t2 d c
        refine ⟨B, ⟨f.1, fun i hi => ?_⟩, ?_⟩
        · rw [ws_t hc (by omega) c]
          exact f.2 i hi
        · have : 2 ^ topOf k h ≤ 2 ^ h := Nat.pow_le_pow_right (by omega) (by omega)
          omega
      · obtain ⟨B, f, b⟩ := ih (h - topOf k h) (by omega) (d - topOf k h) (by omega)
        refine ⟨fun i => if i < topOf k h then (2 ^ (h - topOf k h) - 1) * 2 ^ (topOf k h - i) else B (i - topOf k h), ⟨?_, fun i hi => ?_⟩, ?_⟩
        · try dsimp only
          rw [if_neg c]
          exact f.1
        · try dsimp only
          by_cases c2 : i < topOf k h
          · rw [ws_b1 hc (by omega) (by omega) c2, if_pos c2, show topOf k h - i = topOf k h - 1 - i + 1 by omega, Nat.pow_succ, ← Nat.mul_assoc]
            by_cases c3 : i + 1 < topOf k h
            · rw [if_pos c3, show topOf k h - (i + 1) = topOf k h - 1 - i by omega]
              omega
            · rw [if_neg c3, show i + 1 - topOf k h = 0 by omega, show topOf k h - 1 - i = 0 by omega, Nat.pow_zero]
              omega
          · rw [if_neg c2, if_neg (by omega), ws_b2 hc (by omega) (by omega) (by omega), show i + 1 - topOf k h = i - topOf k h + 1 by omega]
            exact f.2 _ (by omega)
        · try dsimp only
          rw [if_pos (by omega), Nat.sub_zero, Nat.mul_comm]
          have q3 := pow_split (t := topOf k h) (h := h) (by omega)
          have q1 := p2pos (topOf k h)
          have q2 := p2pos (h - topOf k h)
          rw [q3]
          generalize 2 ^ topOf k h = T at *
          generalize 2 ^ (h - topOf k h) = N at *
          obtain ⟨M, rfl⟩ : ∃ M, N = M + 1 := ⟨N - 1, by omega⟩
          rw [Nat.mul_add, Nat.mul_one, show M + 1 - 1 = M by omega]
          omega
  · have e : ∀ i, i < d → 2 ^ (h - i) = 2 ^ (h - 1 - i) * 2 ∧ h - (i + 1) = h - 1 - i := fun i hi => ⟨p2s (by omega), by omega⟩
    cases k with
    | lev =>
      refine ⟨fun i => 2 ^ (d - i), ⟨?_, fun i hi => ?_⟩, ?_⟩
      · try dsimp only
        rw [Nat.sub_self]; exact Nat.le_refl _
      · show 2 ^ (d - (i + 1)) ≤ 2 ^ (d - 1 - i) ∧ 2 ^ (d - 1 - i) + 2 ^ (d - (i + 1)) ≤ 2 ^ (d - i)
        rw [show d - (i + 1) = d - 1 - i by omega, show d - i = d - 1 - i + 1 by omega, Nat.pow_succ]
        omega
      · try dsimp only
        rw [Nat.sub_zero]
        have : 2 ^ d < 2 ^ h := Nat.pow_lt_pow_right (by omega) hd
        omega
    | ino =>
      have p1 : 2 ^ 1 ≤ 2 ^ (h - d) := Nat.pow_le_pow_right (by omega) (by omega)
      refine ⟨fun i => 2 ^ (h - i) - 2 ^ (h - d) + 1, ⟨?_, fun i hi => ?_⟩, ?_⟩
      · try dsimp only
        omega
      · obtain ⟨e1, e2⟩ := e i hi
        have p2 : 2 ^ (h - d) ≤ 2 ^ (h - 1 - i) := Nat.pow_le_pow_right (by omega) (by omega)
        show 2 ^ (h - (i + 1)) - 2 ^ (h - d) + 1 ≤ 2 ^ (h - 1 - i) ∧ 2 ^ (h - 1 - i) + (2 ^ (h - (i + 1)) - 2 ^ (h - d) + 1) ≤ 2 ^ (h - i) - 2 ^ (h - d) + 1
        rw [e1, e2]
        omega
      · try dsimp only
        rw [Nat.sub_zero]
        have p3 : 2 ^ (h - d) ≤ 2 ^ h := Nat.pow_le_pow_right (by omega) (by omega)
        omega
    | pre =>
      refine ⟨fun i => 2 ^ (h - i) - 1, ⟨?_, fun i hi => ?_⟩, ?_⟩
      · try dsimp only
        have : 2 ^ 1 ≤ 2 ^ (h - d) := Nat.pow_le_pow_right (by omega) (by omega)
        omega
      · obtain ⟨e1, e2⟩ := e i hi
        show 2 ^ (h - (i + 1)) - 1 ≤ 2 ^ (h - 1 - i) - 1 ∧ 2 ^ (h - 1 - i) - 1 + (2 ^ (h - (i + 1)) - 1) ≤ 2 ^ (h - i) - 1
        rw [e1, e2]
        omega
      · try dsimp only
        rw [Nat.sub_zero]
        have := p2pos h
        omega
    | post =>
      refine ⟨fun i => 2 ^ (h - i) - 1, ⟨?_, fun i hi => ?_⟩, ?_⟩
      · try dsimp only
        have : 2 ^ 1 ≤ 2 ^ (h - d) := Nat.pow_le_pow_right (by omega) (by omega)
        omega
      · obtain ⟨e1, e2⟩ := e i hi
        show 2 ^ (h - (i + 1)) - 1 ≤ 2 ^ (h - 1 - i) - 1 ∧ 2 ^ (h - 1 - i) - 1 + (2 ^ (h - (i + 1)) - 1) ≤ 2 ^ (h - i) - 1
        rw [e1, e2]
        omega
      · try dsimp only
        rw [Nat.sub_zero]
        have := p2pos h
        omega
    | les => exact absurd rfl hc
    | gre => exact absurd rfl hc
    | pow => exact absurd rfl hc
end SM
namespace SM
open PySem PySem.Spec DL
open PyProof.Rows hiding St
def kn : Kd → Str
  | .lev => z_levels
  | .ino => z_inorder
  | .pre => z_preorder
  | .post => z_postorder
  | .les => z_lesser
  | .gre => z_greater
  | .pow => z_powers
theorem cutIn (k : Kd) : dNotIn (.str (kn k)) (.tuple [.str z_lesser, .str z_greater, .str z_powers]) = some (.bool (!isCut k), false) := by cases k <;> exact id rfl
theorem zz1 : (z_inorder = z_levels) = False := by simp [z_inorder, z_levels]
theorem zz2 : (z_preorder = z_levels) = False := by simp [z_preorder, z_levels]
theorem zz3 : (z_preorder = z_inorder) = False := by simp [z_preorder, z_inorder]
theorem zz4 : (z_postorder = z_levels) = False := by simp [z_postorder, z_levels]
theorem zz5 : (z_postorder = z_inorder) = False := by simp [z_postorder, z_inorder]
theorem zz6 : (z_postorder = z_preorder) = False := by simp [z_postorder, z_preorder]
theorem zz7 : (z_greater = z_lesser) = False := by simp [z_greater, z_lesser]
theorem zz8 : (z_powers = z_lesser) = False := by simp [z_powers, z_lesser]
theorem zz9 : (z_powers = z_greater) = False := by simp [z_powers, z_greater]
/-- the weights of a kind as numbers -/
def wz (k : Kd) (h d : Nat) : Nat → Int := fun i => (ws k h d i : Int)
theorem pw1 (d : Nat) : ((2 ^ d - 1 : Nat) : Int) = 2 ^ d - 1 := by have := p2pos d; have := pw d; omega
theorem pw2 (d : Nat) (hd : 1 ≤ d) : ((2 ^ d - 2 : Nat) : Int) = 2 ^ d - 2 := by
  have : 2 ^ 1 ≤ 2 ^ d := Nat.pow_le_pow_right (by omega) hd
  have := pw d
  omega
/-- a list of a weight for each step -/
theorem lc_steps (d : Nat) (w : Nat → Int) (ge : Sl → EV) (δ : Sl) (l : Nat) (h : ∀ i, i < d → ∃ δ1 fr, gtName [] l (.int (1 + (i : Int))) false δ = some δ1 ∧ ge δ1 = .ok (.int (w i), fr) δ1 ∧ wipeD δ1 [l] = δ) :
    lcD [l] (gtName [] l) gYes ge (rgD 1 ((d : Int) + 1)) [] δ = .ok (wsD d w) δ := by
  have e0 : rgD 1 ((d : Int) + 1) = (List.range d).map (fun i : Nat => PyData.int (1 + (i : Int))) := by
    simp only [rgD]
    rw [show ((d : Int) + 1 - 1).toNat = d by omega]
  rw [lcD_map (fun x => match x with | .int k => .int (w (k - 1).toNat) | _ => .none) []]
  · rw [List.nil_append, e0, List.map_map]
    congr 1
    unfold wsD
    refine List.map_congr_left fun i hi => ?_
    simp only [Function.comp]
    rw [show (1 + (i : Int) - 1).toNat = i by omega]
  · intro x hx
    rw [e0] at hx
    simp only [List.mem_map, List.mem_range] at hx
    obtain ⟨i, hi, rfl⟩ := hx
    obtain ⟨δ1, fr, h1, h2, h3⟩ := h i hi
    refine ⟨δ1, δ1, δ1, fr, h1, rfl, ?_, h3⟩
    dsimp only
    rw [show (1 + (i : Int) - 1).toNat = i by omega]
    exact h2
theorem lc_stepsN (d : Nat) (w : Nat → Int) (ge : Sl → EV) (δ : Sl) (l : Nat) (h : ∀ i, i < d → ∃ δ1 fr, gtName [] l (.int (1 + (i : Int))) false δ = some δ1 ∧ ge δ1 = .ok (.int (w i), fr) δ1 ∧ wipeD δ1 [l] = δ) :
    lcD [l] (gtName [] l) gYes ge (rgN 1 d) [] δ = .ok (wsD d w) δ := by
  have e0 : rgD 1 ((d : Int) + 1) = rgN 1 d := by
    simp only [rgD, rgN]
    rw [show ((d : Int) + 1 - 1).toNat = d by omega]
  rw [← e0]
  exact lc_steps d w ge δ l h
theorem plain_k (k : Kd) (hc : isCut k = false) (h d : Nat) (hd : d < h) (hh : h ≤ 100) :
    m_plain_sums [.str (kn k), .int h, .int d] = .ok (.tuple [.int (num k h d : Nat), .list (wsD d (wz k h d))], false) [] := by
  have e2 : rgOk 1 ((d : Int) + 1) = true := rg_ok _ _ (by omega) (by omega) (by omega) (by omega)
  have e4 : (rgD 1 ((d : Int) + 1)).length = d := by simp [rgD]
  have l1 : d ≤ LINE := by show d ≤ 16777216; omega
  have l2 : 2 ≤ LINE := by show 2 ≤ 16777216; omega
  have sh : ∀ (a b : Nat) (j : Int), j = ((a - b : Nat) : Int) → a ≤ 1000 → dShl (.int 1) (.int j) = some (.int (2 ^ (a - b)), false) := by
    intro a b j hj ha
    rw [hj]
    exact shl1 _ (by omega)
  cases k with
  | lev =>
    have e1 := shl1 d (by omega)
    have e3 := lc_steps d (wz .lev h d) ce_plain_sums_4 [some (false, .str z_levels), some (false, .int h), some (false, .int d), some (false, .list (rgD 1 ((d : Int) + 1))), none] 4 (by
      intro i hi
      have e5 := sh (d - 1) i ((d : Int) - (1 + (i : Int))) (by omega) (by omega)
      have e6 : wz .lev h d i = 2 ^ (d - 1 - i) := pw _
      refine ⟨_, false, by simp [e_tUnl, e_ext, e_ext0, e_ext1, e_ext2, e_dix, e_dix1, e_dix2, e_look, e_rev, e_rev1, e_lr1, e_lr11, e_isE1, e_isE2, e_isE3, e_isE4, e_isE5, e_isE6, e_try, e_try1, e_try2, e_eqAS, e_neAS, e_eqAI, e_neAI, e_bind_ok, e_bind_exc, e_bind_stk, e_var, e_var1, e_var2, e_move, e_move1, e_move2, e_C, e_fin1, e_bin, e_bin1, e_bin2, e_chain, e_chain1, e_chain2, e_chain3, e_chain4, e_chain5, e_if, e_if1, e_if2, e_tv, e_tv1, e_notT, e_notT1, e_andT, e_andT1, e_andT2, e_orT, e_orT1, e_orT2, e_andV, e_andV1, e_andV2, e_orV, e_orV1, e_orV2, e_notV, e_notV1, e_aNil, e_aCons, e_aCons1, e_aCons2, e_star, e_star1, e_star2, e_star3, e_lst, e_lst1, e_tup, e_tup1, e_call, e_call1, e_slot, e_slot1, e_sb, e_sb0, e_sb1, e_sb2, e_sb3, e_bs, e_bs1, e_bs2, e_lenV, e_lenV1, e_un, e_un1, e_def, e_def1, e_def2, e_def3, e_fix0, e_fix1, e_fix2, e_def4, e_def0, e_def01, e_jNil, e_jVal, e_jVal1, e_j2, e_jIo, e_jIo1, e_itD0, e_itD1, e_itD2, e_itD3, e_itJ0, e_itJ1, e_itJ2, e_itP0, e_itP1, e_itP2, e_setMany0, e_setMany1, e_nodup0, e_nodup1, e_noPart, e_part, e_part1, e_slice, e_slice1, e_slice2, e_slice3, e_lstRg, e_lstRg1, e_lstRg2, e_iSeq, e_iSeq1, e_iSeq2, e_iEn, e_iEn1, e_iEn2, e_iR1, e_iR11, e_iR2, e_iR21, e_yes, e_lc, e_lc1, e_lc2, e_wipe0, e_wipe1, e_back0, e_back1, e_back2, e_noneOwn0, e_noneOwn1, e_noneOwn2, e_noneOwn3, e_noneOwn4, e_name, e_set, e_tNil, e_tCons, e_tCons1, e_tTup, e_seq, e_seq1, e_seq2, e_seq3, e_seq4, e_seq5, e_next, e_break, e_cont, e_expr, e_expr1, e_ret, e_ret1, e_sIf, e_sIf1, e_sIf2, e_asg, e_asg1, e_asg2, e_aug, e_aug0, e_aug1, e_aug2, e_aug3, e_par, e_par1, e_par2, e_app, e_app0, e_app1, e_app2, e_setIx, e_setIx0, e_setIx1, e_setIx2, e_setIx3, e_setIx4, e_match, e_match1, e_mCase, e_mAny, e_raise, e_for, e_body, e_body1, e_body2, e_body3, e_body4, e_body5, e_outs0, e_outs1, e_outs2, e_start0, e_start1, e_addI, e_addL, e_addI2, e_sub, e_cmp, e_eqI, e_neI, e_eqB, e_isN0, e_isN1, e_isN2, e_isN3, e_notN0, e_notN1, e_notN2, e_notN3, e_int, e_intB, e_max, e_min, e_neg, e_bits, e_lenL, e_lenT, e_lenS, e_ixL, e_ixT, e_ixS, e_at0, e_at1, e_at2, e_map, e_lstOf, e_lstOfS, e_seqOf, e_seqOfT, e_seqOfS, e_isiIB, e_isiII, e_isiTT, e_isiLL]; rfl, by simp [ce_plain_sums_4, e_tUnl, e_ext, e_ext0, e_ext1, e_ext2, e_dix, e_dix1, e_dix2, e_look, e_rev, e_rev1, e_lr1, e_lr11, e_isE1, e_isE2, e_isE3, e_isE4, e_isE5, e_isE6, e_try, e_try1, e_try2, e_eqAS, e_neAS, e_eqAI, e_neAI, e_bind_ok, e_bind_exc, e_bind_stk, e_var, e_var1, e_var2, e_move, e_move1, e_move2, e_C, e_fin1, e_bin, e_bin1, e_bin2, e_chain, e_chain1, e_chain2, e_chain3, e_chain4, e_chain5, e_if, e_if1, e_if2, e_tv, e_tv1, e_notT, e_notT1, e_andT, e_andT1, e_andT2, e_orT, e_orT1, e_orT2, e_andV, e_andV1, e_andV2, e_orV, e_orV1, e_orV2, e_notV, e_notV1, e_aNil, e_aCons, e_aCons1, e_aCons2, e_star, e_star1, e_star2, e_star3, e_lst, e_lst1, e_tup, e_tup1, e_call, e_call1, e_slot, e_slot1, e_sb, e_sb0, e_sb1, e_sb2, e_sb3, e_bs, e_bs1, e_bs2, e_lenV, e_lenV1, e_un, e_un1, e_def, e_def1, e_def2, e_def3, e_fix0, e_fix1, e_fix2, e_def4, e_def0, e_def01, e_jNil, e_jVal, e_jVal1, e_j2, e_jIo, e_jIo1, e_itD0, e_itD1, e_itD2, e_itD3, e_itJ0, e_itJ1, e_itJ2, e_itP0, e_itP1, e_itP2, e_setMany0, e_setMany1, e_nodup0, e_nodup1, e_noPart, e_part, e_part1, e_slice, e_slice1, e_slice2, e_slice3, e_lstRg, e_lstRg1, e_lstRg2, e_iSeq, e_iSeq1, e_iSeq2, e_iEn, e_iEn1, e_iEn2, e_iR1, e_iR11, e_iR2, e_iR21, e_yes, e_lc, e_lc1, e_lc2, e_wipe0, e_wipe1, e_back0, e_back1, e_back2, e_noneOwn0, e_noneOwn1, e_noneOwn2, e_noneOwn3, e_noneOwn4, e_name, e_set, e_tNil, e_tCons, e_tCons1, e_tTup, e_seq, e_seq1, e_seq2, e_seq3, e_seq4, e_seq5, e_next, e_break, e_cont, e_expr, e_expr1, e_ret, e_ret1, e_sIf, e_sIf1, e_sIf2, e_asg, e_asg1, e_asg2, e_aug, e_aug0, e_aug1, e_aug2, e_aug3, e_par, e_par1, e_par2, e_app, e_app0, e_app1, e_app2, e_setIx, e_setIx0, e_setIx1, e_setIx2, e_setIx3, e_setIx4, e_match, e_match1, e_mCase, e_mAny, e_raise, e_for, e_body, e_body1, e_body2, e_body3, e_body4, e_body5, e_outs0, e_outs1, e_outs2, e_start0, e_start1, e_addI, e_addL, e_addI2, e_sub, e_cmp, e_eqI, e_neI, e_eqB, e_isN0, e_isN1, e_isN2, e_isN3, e_notN0, e_notN1, e_notN2, e_notN3, e_int, e_intB, e_max, e_min, e_neg, e_bits, e_lenL, e_lenT, e_lenS, e_ixL, e_ixT, e_ixS, e_at0, e_at1, e_at2, e_map, e_lstOf, e_lstOfS, e_seqOf, e_seqOfT, e_seqOfS, e_isiIB, e_isiII, e_isiTT, e_isiLL, e5, e6], by simp [e_tUnl, e_ext, e_ext0, e_ext1, e_ext2, e_dix, e_dix1, e_dix2, e_look, e_rev, e_rev1, e_lr1, e_lr11, e_isE1, e_isE2, e_isE3, e_isE4, e_isE5, e_isE6, e_try, e_try1, e_try2, e_eqAS, e_neAS, e_eqAI, e_neAI, e_bind_ok, e_bind_exc, e_bind_stk, e_var, e_var1, e_var2, e_move, e_move1, e_move2, e_C, e_fin1, e_bin, e_bin1, e_bin2, e_chain, e_chain1, e_chain2, e_chain3, e_chain4, e_chain5, e_if, e_if1, e_if2, e_tv, e_tv1, e_notT, e_notT1, e_andT, e_andT1, e_andT2, e_orT, e_orT1, e_orT2, e_andV, e_andV1, e_andV2, e_orV, e_orV1, e_orV2, e_notV, e_notV1, e_aNil, e_aCons, e_aCons1, e_aCons2, e_star, e_star1, e_star2, e_star3, e_lst, e_lst1, e_tup, e_tup1, e_call, e_call1, e_slot, e_slot1, e_sb, e_sb0, e_sb1, e_sb2, e_sb3, e_bs, e_bs1, e_bs2, e_lenV, e_lenV1, e_un, e_un1, e_def, e_def1, e_def2, e_def3, e_fix0, e_fix1, e_fix2, e_def4, e_def0, e_def01, e_jNil, e_jVal, e_jVal1, e_j2, e_jIo, e_jIo1, e_itD0, e_itD1, e_itD2, e_itD3, e_itJ0, e_itJ1, e_itJ2, e_itP0, e_itP1, e_itP2, e_setMany0, e_setMany1, e_nodup0, e_nodup1, e_noPart, e_part, e_part1, e_slice, e_slice1, e_slice2, e_slice3, e_lstRg, e_lstRg1, e_lstRg2, e_iSeq, e_iSeq1, e_iSeq2, e_iEn, e_iEn1, e_iEn2, e_iR1, e_iR11, e_iR2, e_iR21, e_yes, e_lc, e_lc1, e_lc2, e_wipe0, e_wipe1, e_back0, e_back1, e_back2, e_noneOwn0, e_noneOwn1, e_noneOwn2, e_noneOwn3, e_noneOwn4, e_name, e_set, e_tNil, e_tCons, e_tCons1, e_tTup, e_seq, e_seq1, e_seq2, e_seq3, e_seq4, e_seq5, e_next, e_break, e_cont, e_expr, e_expr1, e_ret, e_ret1, e_sIf, e_sIf1, e_sIf2, e_asg, e_asg1, e_asg2, e_aug, e_aug0, e_aug1, e_aug2, e_aug3, e_par, e_par1, e_par2, e_app, e_app0, e_app1, e_app2, e_setIx, e_setIx0, e_setIx1, e_setIx2, e_setIx3, e_setIx4, e_match, e_match1, e_mCase, e_mAny, e_raise, e_for, e_body, e_body1, e_body2, e_body3, e_body4, e_body5, e_outs0, e_outs1, e_outs2, e_start0, e_start1, e_addI, e_addL, e_addI2, e_sub, e_cmp, e_eqI, e_neI, e_eqB, e_isN0, e_isN1, e_isN2, e_isN3, e_notN0, e_notN1, e_notN2, e_notN3, e_int, e_intB, e_max, e_min, e_neg, e_bits, e_lenL, e_lenT, e_lenS, e_ixL, e_ixT, e_ixS, e_at0, e_at1, e_at2, e_map, e_lstOf, e_lstOfS, e_seqOf, e_seqOfT, e_seqOfS, e_isiIB, e_isiII, e_isiTT, e_isiLL]⟩)
    have e7 : ((num .lev h d : Nat) : Int) = 2 ^ d - 1 := pw1 d
    simp [m_plain_sums, b_plain_sums, kn, e_tUnl, e_ext, e_ext0, e_ext1, e_ext2, e_dix, e_dix1, e_dix2, e_look, e_rev, e_rev1, e_lr1, e_lr11, e_isE1, e_isE2, e_isE3, e_isE4, e_isE5, e_isE6, e_try, e_try1, e_try2, e_eqAS, e_neAS, e_eqAI, e_neAI, e_bind_ok, e_bind_exc, e_bind_stk, e_var, e_var1, e_var2, e_move, e_move1, e_move2, e_C, e_fin1, e_bin, e_bin1, e_bin2, e_chain, e_chain1, e_chain2, e_chain3, e_chain4, e_chain5, e_if, e_if1, e_if2, e_tv, e_tv1, e_notT, e_notT1, e_andT, e_andT1, e_andT2, e_orT, e_orT1, e_orT2, e_andV, e_andV1, e_andV2, e_orV, e_orV1, e_orV2, e_notV, e_notV1, e_aNil, e_aCons, e_aCons1, e_aCons2, e_star, e_star1, e_star2, e_star3, e_lst, e_lst1, e_tup, e_tup1, e_call, e_call1, e_slot, e_slot1, e_sb, e_sb0, e_sb1, e_sb2, e_sb3, e_bs, e_bs1, e_bs2, e_lenV, e_lenV1, e_un, e_un1, e_def, e_def1, e_def2, e_def3, e_fix0, e_fix1, e_fix2, e_def4, e_def0, e_def01, e_jNil, e_jVal, e_jVal1, e_j2, e_jIo, e_jIo1, e_itD0, e_itD1, e_itD2, e_itD3, e_itJ0, e_itJ1, e_itJ2, e_itP0, e_itP1, e_itP2, e_setMany0, e_setMany1, e_nodup0, e_nodup1, e_noPart, e_part, e_part1, e_slice, e_slice1, e_slice2, e_slice3, e_lstRg, e_lstRg1, e_lstRg2, e_iSeq, e_iSeq1, e_iSeq2, e_iEn, e_iEn1, e_iEn2, e_iR1, e_iR11, e_iR2, e_iR21, e_yes, e_lc, e_lc1, e_lc2, e_wipe0, e_wipe1, e_back0, e_back1, e_back2, e_noneOwn0, e_noneOwn1, e_noneOwn2, e_noneOwn3, e_noneOwn4, e_name, e_set, e_tNil, e_tCons, e_tCons1, e_tTup, e_seq, e_seq1, e_seq2, e_seq3, e_seq4, e_seq5, e_next, e_break, e_cont, e_expr, e_expr1, e_ret, e_ret1, e_sIf, e_sIf1, e_sIf2, e_asg, e_asg1, e_asg2, e_aug, e_aug0, e_aug1, e_aug2, e_aug3, e_par, e_par1, e_par2, e_app, e_app0, e_app1, e_app2, e_setIx, e_setIx0, e_setIx1, e_setIx2, e_setIx3, e_setIx4, e_match, e_match1, e_mCase, e_mAny, e_raise, e_for, e_body, e_body1, e_body2, e_body3, e_body4, e_body5, e_outs0, e_outs1, e_outs2, e_start0, e_start1, e_addI, e_addL, e_addI2, e_sub, e_cmp, e_eqI, e_neI, e_eqB, e_isN0, e_isN1, e_isN2, e_isN3, e_notN0, e_notN1, e_notN2, e_notN3, e_int, e_intB, e_max, e_min, e_neg, e_bits, e_lenL, e_lenT, e_lenS, e_ixL, e_ixT, e_ixS, e_at0, e_at1, e_at2, e_map, e_lstOf, e_lstOfS, e_seqOf, e_seqOfT, e_seqOfS, e_isiIB, e_isiII, e_isiTT, e_isiLL, e1, e2, e3, e4, e7, l1, l2]
  | ino =>
    have e1 := sh (h - 1) d ((h : Int) - 1 - d) (by omega) (by omega)
    have e3 := lc_steps d (wz .ino h d) ce_plain_sums_3 [some (false, .str z_inorder), some (false, .int h), some (false, .int d), some (false, .list (rgD 1 ((d : Int) + 1))), none] 4 (by
      intro i hi
      have e5 := sh (h - 1) i ((h : Int) - (1 + (i : Int))) (by omega) (by omega)
      have e6 : wz .ino h d i = 2 ^ (h - 1 - i) := pw _
      refine ⟨_, false, by simp [e_tUnl, e_ext, e_ext0, e_ext1, e_ext2, e_dix, e_dix1, e_dix2, e_look, e_rev, e_rev1, e_lr1, e_lr11, e_isE1, e_isE2, e_isE3, e_isE4, e_isE5, e_isE6, e_try, e_try1, e_try2, e_eqAS, e_neAS, e_eqAI, e_neAI, e_bind_ok, e_bind_exc, e_bind_stk, e_var, e_var1, e_var2, e_move, e_move1, e_move2, e_C, e_fin1, e_bin, e_bin1, e_bin2, e_chain, e_chain1, e_chain2, e_chain3, e_chain4, e_chain5, e_if, e_if1, e_if2, e_tv, e_tv1, e_notT, e_notT1, e_andT, e_andT1, e_andT2, e_orT, e_orT1, e_orT2, e_andV, e_andV1, e_andV2, e_orV, e_orV1, e_orV2, e_notV, e_notV1, e_aNil, e_aCons, e_aCons1, e_aCons2, e_star, e_star1, e_star2, e_star3, e_lst, e_lst1, e_tup, e_tup1, e_call, e_call1, e_slot, e_slot1, e_sb, e_sb0, e_sb1, e_sb2, e_sb3, e_bs, e_bs1, e_bs2, e_lenV, e_lenV1, e_un, e_un1, e_def, e_def1, e_def2, e_def3, e_fix0, e_fix1, e_fix2, e_def4, e_def0, e_def01, e_jNil, e_jVal, e_jVal1, e_j2, e_jIo, e_jIo1, e_itD0, e_itD1, e_itD2, e_itD3, e_itJ0, e_itJ1, e_itJ2, e_itP0, e_itP1, e_itP2, e_setMany0, e_setMany1, e_nodup0, e_nodup1, e_noPart, e_part, e_part1, e_slice, e_slice1, e_slice2, e_slice3, e_lstRg, e_lstRg1, e_lstRg2, e_iSeq, e_iSeq1, e_iSeq2, e_iEn, e_iEn1, e_iEn2, e_iR1, e_iR11, e_iR2, e_iR21, e_yes, e_lc, e_lc1, e_lc2, e_wipe0, e_wipe1, e_back0, e_back1, e_back2, e_noneOwn0, e_noneOwn1, e_noneOwn2, e_noneOwn3, e_noneOwn4, e_name, e_set, e_tNil, e_tCons, e_tCons1, e_tTup, e_seq, e_seq1, e_seq2, e_seq3, e_seq4, e_seq5, e_next, e_break, e_cont, e_expr, e_expr1, e_ret, e_ret1, e_sIf, e_sIf1, e_sIf2, e_asg, e_asg1, e_asg2, e_aug, e_aug0, e_aug1, e_aug2, e_aug3, e_par, e_par1, e_par2, e_app, e_app0, e_app1, e_app2, e_setIx, e_setIx0, e_setIx1, e_setIx2, e_setIx3, e_setIx4, e_match, e_match1, e_mCase, e_mAny, e_raise, e_for, e_body, e_body1, e_body2, e_body3, e_body4, e_body5, e_outs0, e_outs1, e_outs2, e_start0, e_start1, e_addI, e_addL, e_addI2, e_sub, e_cmp, e_eqI, e_neI, e_eqB, e_isN0, e_isN1, e_isN2, e_isN3, e_notN0, e_notN1, e_notN2, e_notN3, e_int, e_intB, e_max, e_min, e_neg, e_bits, e_lenL, e_lenT, e_lenS, e_ixL, e_ixT, e_ixS, e_at0, e_at1, e_at2, e_map, e_lstOf, e_lstOfS, e_seqOf, e_seqOfT, e_seqOfS, e_isiIB, e_isiII, e_isiTT, e_isiLL]; rfl, by simp [ce_plain_sums_3, e_tUnl, e_ext, e_ext0, e_ext1, e_ext2, e_dix, e_dix1, e_dix2, e_look, e_rev, e_rev1, e_lr1, e_lr11, e_isE1, e_isE2, e_isE3, e_isE4, e_isE5, e_isE6, e_try, e_try1, e_try2, e_eqAS, e_neAS, e_eqAI, e_neAI, e_bind_ok, e_bind_exc, e_bind_stk, e_var, e_var1, e_var2, e_move, e_move1, e_move2, e_C, e_fin1, e_bin, e_bin1, e_bin2, e_chain, e_chain1, e_chain2, e_chain3, e_chain4, e_chain5, e_if, e_if1, e_if2, e_tv, e_tv1, e_notT, e_notT1, e_andT, e_andT1, e_andT2, e_orT, e_orT1, e_orT2, e_andV, e_andV1, e_andV2, e_orV, e_orV1, e_orV2, e_notV, e_notV1, e_aNil, e_aCons, e_aCons1, e_aCons2, e_star, e_star1, e_star2, e_star3, e_lst, e_lst1, e_tup, e_tup1, e_call, e_call1, e_slot, e_slot1, e_sb, e_sb0, e_sb1, e_sb2, e_sb3, e_bs, e_bs1, e_bs2, e_lenV, e_lenV1, e_un, e_un1, e_def, e_def1, e_def2, e_def3, e_fix0, e_fix1, e_fix2, e_def4, e_def0, e_def01, e_jNil, e_jVal, e_jVal1, e_j2, e_jIo, e_jIo1, e_itD0, e_itD1, e_itD2, e_itD3, e_itJ0, e_itJ1, e_itJ2, e_itP0, e_itP1, e_itP2, e_setMany0, e_setMany1, e_nodup0, e_nodup1, e_noPart, e_part, e_part1, e_slice, e_slice1, e_slice2, e_slice3, e_lstRg, e_lstRg1, e_lstRg2, e_iSeq, e_iSeq1, e_iSeq2, e_iEn, e_iEn1, e_iEn2, e_iR1, e_iR11, e_iR2, e_iR21, e_yes, e_lc, e_lc1, e_lc2, e_wipe0, e_wipe1, e_back0, e_back1, e_back2, e_noneOwn0, e_noneOwn1, e_noneOwn2, e_noneOwn3, e_noneOwn4, e_name, e_set, e_tNil, e_tCons, e_tCons1, e_tTup, e_seq, e_seq1, e_seq2, e_seq3, e_seq4, e_seq5, e_next, e_break, e_cont, e_expr, e_expr1, e_ret, e_ret1, e_sIf, e_sIf1, e_sIf2, e_asg, e_asg1, e_asg2, e_aug, e_aug0, e_aug1, e_aug2, e_aug3, e_par, e_par1, e_par2, e_app, e_app0, e_app1, e_app2, e_setIx, e_setIx0, e_setIx1, e_setIx2, e_setIx3, e_setIx4, e_match, e_match1, e_mCase, e_mAny, e_raise, e_for, e_body, e_body1, e_body2, e_body3, e_body4, e_body5, e_outs0, e_outs1, e_outs2, e_start0, e_start1, e_addI, e_addL, e_addI2, e_sub, e_cmp, e_eqI, e_neI, e_eqB, e_isN0, e_isN1, e_isN2, e_isN3, e_notN0, e_notN1, e_notN2, e_notN3, e_int, e_intB, e_max, e_min, e_neg, e_bits, e_lenL, e_lenT, e_lenS, e_ixL, e_ixT, e_ixS, e_at0, e_at1, e_at2, e_map, e_lstOf, e_lstOfS, e_seqOf, e_seqOfT, e_seqOfS, e_isiIB, e_isiII, e_isiTT, e_isiLL, e5, e6], by simp [e_tUnl, e_ext, e_ext0, e_ext1, e_ext2, e_dix, e_dix1, e_dix2, e_look, e_rev, e_rev1, e_lr1, e_lr11, e_isE1, e_isE2, e_isE3, e_isE4, e_isE5, e_isE6, e_try, e_try1, e_try2, e_eqAS, e_neAS, e_eqAI, e_neAI, e_bind_ok, e_bind_exc, e_bind_stk, e_var, e_var1, e_var2, e_move, e_move1, e_move2, e_C, e_fin1, e_bin, e_bin1, e_bin2, e_chain, e_chain1, e_chain2, e_chain3, e_chain4, e_chain5, e_if, e_if1, e_if2, e_tv, e_tv1, e_notT, e_notT1, e_andT, e_andT1, e_andT2, e_orT, e_orT1, e_orT2, e_andV, e_andV1, e_andV2, e_orV, e_orV1, e_orV2, e_notV, e_notV1, e_aNil, e_aCons, e_aCons1, e_aCons2, e_star, e_star1, e_star2, e_star3, e_lst, e_lst1, e_tup, e_tup1, e_call, e_call1, e_slot, e_slot1, e_sb, e_sb0, e_sb1, e_sb2, e_sb3, e_bs, e_bs1, e_bs2, e_lenV, e_lenV1, e_un, e_un1, e_def, e_def1, e_def2, e_def3, e_fix0, e_fix1, e_fix2, e_def4, e_def0, e_def01, e_jNil, e_jVal, e_jVal1, e_j2, e_jIo, e_jIo1, e_itD0, e_itD1, e_itD2, e_itD3, e_itJ0, e_itJ1, e_itJ2, e_itP0, e_itP1, e_itP2, e_setMany0, e_setMany1, e_nodup0, e_nodup1, e_noPart, e_part, e_part1, e_slice, e_slice1, e_slice2, e_slice3, e_lstRg, e_lstRg1, e_lstRg2, e_iSeq, e_iSeq1, e_iSeq2, e_iEn, e_iEn1, e_iEn2, e_iR1, e_iR11, e_iR2, e_iR21, e_yes, e_lc, e_lc1, e_lc2, e_wipe0, e_wipe1, e_back0, e_back1, e_back2, e_noneOwn0, e_noneOwn1, e_noneOwn2, e_noneOwn3, e_noneOwn4, e_name, e_set, e_tNil, e_tCons, e_tCons1, e_tTup, e_seq, e_seq1, e_seq2, e_seq3, e_seq4, e_seq5, e_next, e_break, e_cont, e_expr, e_expr1, e_ret, e_ret1, e_sIf, e_sIf1, e_sIf2, e_asg, e_asg1, e_asg2, e_aug, e_aug0, e_aug1, e_aug2, e_aug3, e_par, e_par1, e_par2, e_app, e_app0, e_app1, e_app2, e_setIx, e_setIx0, e_setIx1, e_setIx2, e_setIx3, e_setIx4, e_match, e_match1, e_mCase, e_mAny, e_raise, e_for, e_body, e_body1, e_body2, e_body3, e_body4, e_body5, e_outs0, e_outs1, e_outs2, e_start0, e_start1, e_addI, e_addL, e_addI2, e_sub, e_cmp, e_eqI, e_neI, e_eqB, e_isN0, e_isN1, e_isN2, e_isN3, e_notN0, e_notN1, e_notN2, e_notN3, e_int, e_intB, e_max, e_min, e_neg, e_bits, e_lenL, e_lenT, e_lenS, e_ixL, e_ixT, e_ixS, e_at0, e_at1, e_at2, e_map, e_lstOf, e_lstOfS, e_seqOf, e_seqOfT, e_seqOfS, e_isiIB, e_isiII, e_isiTT, e_isiLL]⟩)
    have e7 : ((num .ino h d : Nat) : Int) = 2 ^ (h - 1 - d) - 1 := pw1 _
    simp [m_plain_sums, b_plain_sums, kn, e_tUnl, e_ext, e_ext0, e_ext1, e_ext2, e_dix, e_dix1, e_dix2, e_look, e_rev, e_rev1, e_lr1, e_lr11, e_isE1, e_isE2, e_isE3, e_isE4, e_isE5, e_isE6, e_try, e_try1, e_try2, e_eqAS, e_neAS, e_eqAI, e_neAI, e_bind_ok, e_bind_exc, e_bind_stk, e_var, e_var1, e_var2, e_move, e_move1, e_move2, e_C, e_fin1, e_bin, e_bin1, e_bin2, e_chain, e_chain1, e_chain2, e_chain3, e_chain4, e_chain5, e_if, e_if1, e_if2, e_tv, e_tv1, e_notT, e_notT1, e_andT, e_andT1, e_andT2, e_orT, e_orT1, e_orT2, e_andV, e_andV1, e_andV2, e_orV, e_orV1, e_orV2, e_notV, e_notV1, e_aNil, e_aCons, e_aCons1, e_aCons2, e_star, e_star1, e_star2, e_star3, e_lst, e_lst1, e_tup, e_tup1, e_call, e_call1, e_slot, e_slot1, e_sb, e_sb0, e_sb1, e_sb2, e_sb3, e_bs, e_bs1, e_bs2, e_lenV, e_lenV1, e_un, e_un1, e_def, e_def1, e_def2, e_def3, e_fix0, e_fix1, e_fix2, e_def4, e_def0, e_def01, e_jNil, e_jVal, e_jVal1, e_j2, e_jIo, e_jIo1, e_itD0, e_itD1, e_itD2, e_itD3, e_itJ0, e_itJ1, e_itJ2, e_itP0, e_itP1, e_itP2, e_setMany0, e_setMany1, e_nodup0, e_nodup1, e_noPart, e_part, e_part1, e_slice, e_slice1, e_slice2, e_slice3, e_lstRg, e_lstRg1, e_lstRg2, e_iSeq, e_iSeq1, e_iSeq2, e_iEn, e_iEn1, e_iEn2, e_iR1, e_iR11, e_iR2, e_iR21, e_yes, e_lc, e_lc1, e_lc2, e_wipe0, e_wipe1, e_back0, e_back1, e_back2, e_noneOwn0, e_noneOwn1, e_noneOwn2, e_noneOwn3, e_noneOwn4, e_name, e_set, e_tNil, e_tCons, e_tCons1, e_tTup, e_seq, e_seq1, e_seq2, e_seq3, e_seq4, e_seq5, e_next, e_break, e_cont, e_expr, e_expr1, e_ret, e_ret1, e_sIf, e_sIf1, e_sIf2, e_asg, e_asg1, e_asg2, e_aug, e_aug0, e_aug1, e_aug2, e_aug3, e_par, e_par1, e_par2, e_app, e_app0, e_app1, e_app2, e_setIx, e_setIx0, e_setIx1, e_setIx2, e_setIx3, e_setIx4, e_match, e_match1, e_mCase, e_mAny, e_raise, e_for, e_body, e_body1, e_body2, e_body3, e_body4, e_body5, e_outs0, e_outs1, e_outs2, e_start0, e_start1, e_addI, e_addL, e_addI2, e_sub, e_cmp, e_eqI, e_neI, e_eqB, e_isN0, e_isN1, e_isN2, e_isN3, e_notN0, e_notN1, e_notN2, e_notN3, e_int, e_intB, e_max, e_min, e_neg, e_bits, e_lenL, e_lenT, e_lenS, e_ixL, e_ixT, e_ixS, e_at0, e_at1, e_at2, e_map, e_lstOf, e_lstOfS, e_seqOf, e_seqOfT, e_seqOfS, e_isiIB, e_isiII, e_isiTT, e_isiLL, e1, e2, e3, e4, e7, l1, l2, zz1]
  | pre =>
    have e3 := lc_steps d (wz .pre h d) ce_plain_sums_2 [some (false, .str z_preorder), some (false, .int h), some (false, .int d), some (false, .list (rgD 1 ((d : Int) + 1))), none] 4 (by
      intro i hi
      have e5 := sh (h - 1) i ((h : Int) - (1 + (i : Int))) (by omega) (by omega)
      have e6 : wz .pre h d i = 2 ^ (h - 1 - i) - 1 := pw1 _
      refine ⟨_, false, by simp [e_tUnl, e_ext, e_ext0, e_ext1, e_ext2, e_dix, e_dix1, e_dix2, e_look, e_rev, e_rev1, e_lr1, e_lr11, e_isE1, e_isE2, e_isE3, e_isE4, e_isE5, e_isE6, e_try, e_try1, e_try2, e_eqAS, e_neAS, e_eqAI, e_neAI, e_bind_ok, e_bind_exc, e_bind_stk, e_var, e_var1, e_var2, e_move, e_move1, e_move2, e_C, e_fin1, e_bin, e_bin1, e_bin2, e_chain, e_chain1, e_chain2, e_chain3, e_chain4, e_chain5, e_if, e_if1, e_if2, e_tv, e_tv1, e_notT, e_notT1, e_andT, e_andT1, e_andT2, e_orT, e_orT1, e_orT2, e_andV, e_andV1, e_andV2, e_orV, e_orV1, e_orV2, e_notV, e_notV1, e_aNil, e_aCons, e_aCons1, e_aCons2, e_star, e_star1, e_star2, e_star3, e_lst, e_lst1, e_tup, e_tup1, e_call, e_call1, e_slot, e_slot1, e_sb, e_sb0, e_sb1, e_sb2, e_sb3, e_bs, e_bs1, e_bs2, e_lenV, e_lenV1, e_un, e_un1, e_def, e_def1, e_def2, e_def3, e_fix0, e_fix1, e_fix2, e_def4, e_def0, e_def01, e_jNil, e_jVal, e_jVal1, e_j2, e_jIo, e_jIo1, e_itD0, e_itD1, e_itD2, e_itD3, e_itJ0, e_itJ1, e_itJ2, e_itP0, e_itP1, e_itP2, e_setMany0, e_setMany1, e_nodup0, e_nodup1, e_noPart, e_part, e_part1, e_slice, e_slice1, e_slice2, e_slice3, e_lstRg, e_lstRg1, e_lstRg2, e_iSeq, e_iSeq1, e_iSeq2, e_iEn, e_iEn1, e_iEn2, e_iR1, e_iR11, e_iR2, e_iR21, e_yes, e_lc, e_lc1, e_lc2, e_wipe0, e_wipe1, e_back0, e_back1, e_back2, e_noneOwn0, e_noneOwn1, e_noneOwn2, e_noneOwn3, e_noneOwn4, e_name, e_set, e_tNil, e_tCons, e_tCons1, e_tTup, e_seq, e_seq1, e_seq2, e_seq3, e_seq4, e_seq5, e_next, e_break, e_cont, e_expr, e_expr1, e_ret, e_ret1, e_sIf, e_sIf1, e_sIf2, e_asg, e_asg1, e_asg2, e_aug, e_aug0, e_aug1, e_aug2, e_aug3, e_par, e_par1, e_par2, e_app, e_app0, e_app1, e_app2, e_setIx, e_setIx0, e_setIx1, e_setIx2, e_setIx3, e_setIx4, e_match, e_match1, e_mCase, e_mAny, e_raise, e_for, e_body, e_body1, e_body2, e_body3, e_body4, e_body5, e_outs0, e_outs1, e_outs2, e_start0, e_start1, e_addI, e_addL, e_addI2, e_sub, e_cmp, e_eqI, e_neI, e_eqB, e_isN0, e_isN1, e_isN2, e_isN3, e_notN0, e_notN1, e_notN2, e_notN3, e_int, e_intB, e_max, e_min, e_neg, e_bits, e_lenL, e_lenT, e_lenS, e_ixL, e_ixT, e_ixS, e_at0, e_at1, e_at2, e_map, e_lstOf, e_lstOfS, e_seqOf, e_seqOfT, e_seqOfS, e_isiIB, e_isiII, e_isiTT, e_isiLL]; rfl, by simp [ce_plain_sums_2, e_tUnl, e_ext, e_ext0, e_ext1, e_ext2, e_dix, e_dix1, e_dix2, e_look, e_rev, e_rev1, e_lr1, e_lr11, e_isE1, e_isE2, e_isE3, e_isE4, e_isE5, e_isE6, e_try, e_try1, e_try2, e_eqAS, e_neAS, e_eqAI, e_neAI, e_bind_ok, e_bind_exc, e_bind_stk, e_var, e_var1, e_var2, e_move, e_move1, e_move2, e_C, e_fin1, e_bin, e_bin1, e_bin2, e_chain, e_chain1, e_chain2, e_chain3, e_chain4, e_chain5, e_if, e_if1, e_if2, e_tv, e_tv1, e_notT, e_notT1, e_andT, e_andT1, e_andT2, e_orT, e_orT1, e_orT2, e_andV, e_andV1, e_andV2, e_orV, e_orV1, e_orV2, e_notV, e_notV1, e_aNil, e_aCons, e_aCons1, e_aCons2, e_star, e_star1, e_star2, e_star3, e_lst, e_lst1, e_tup, e_tup1, e_call, e_call1, e_slot, e_slot1, e_sb, e_sb0, e_sb1, e_sb2, e_sb3, e_bs, e_bs1, e_bs2, e_lenV, e_lenV1, e_un, e_un1, e_def, e_def1, e_def2, e_def3, e_fix0, e_fix1, e_fix2, e_def4, e_def0, e_def01, e_jNil, e_jVal, e_jVal1, e_j2, e_jIo, e_jIo1, e_itD0, e_itD1, e_itD2, e_itD3, e_itJ0, e_itJ1, e_itJ2, e_itP0, e_itP1, e_itP2, e_setMany0, e_setMany1, e_nodup0, e_nodup1, e_noPart, e_part, e_part1, e_slice, e_slice1, e_slice2, e_slice3, e_lstRg, e_lstRg1, e_lstRg2, e_iSeq, e_iSeq1, e_iSeq2, e_iEn, e_iEn1, e_iEn2, e_iR1, e_iR11, e_iR2, e_iR21, e_yes, e_lc, e_lc1, e_lc2, e_wipe0, e_wipe1, e_back0, e_back1, e_back2, e_noneOwn0, e_noneOwn1, e_noneOwn2, e_noneOwn3, e_noneOwn4, e_name, e_set, e_tNil, e_tCons, e_tCons1, e_tTup, e_seq, e_seq1, e_seq2, e_seq3, e_seq4, e_seq5, e_next, e_break, e_cont, e_expr, e_expr1, e_ret, e_ret1, e_sIf, e_sIf1, e_sIf2, e_asg, e_asg1, e_asg2, e_aug, e_aug0, e_aug1, e_aug2, e_aug3, e_par, e_par1, e_par2, e_app, e_app0, e_app1, e_app2, e_setIx, e_setIx0, e_setIx1, e_setIx2, e_setIx3, e_setIx4, e_match, e_match1, e_mCase, e_mAny, e_raise, e_for, e_body, e_body1, e_body2, e_body3, e_body4, e_body5, e_outs0, e_outs1, e_outs2, e_start0, e_start1, e_addI, e_addL, e_addI2, e_sub, e_cmp, e_eqI, e_neI, e_eqB, e_isN0, e_isN1, e_isN2, e_isN3, e_notN0, e_notN1, e_notN2, e_notN3, e_int, e_intB, e_max, e_min, e_neg, e_bits, e_lenL, e_lenT, e_lenS, e_ixL, e_ixT, e_ixS, e_at0, e_at1, e_at2, e_map, e_lstOf, e_lstOfS, e_seqOf, e_seqOfT, e_seqOfS, e_isiIB, e_isiII, e_isiTT, e_isiLL, e5, e6], by simp [e_tUnl, e_ext, e_ext0, e_ext1, e_ext2, e_dix, e_dix1, e_dix2, e_look, e_rev, e_rev1, e_lr1, e_lr11, e_isE1, e_isE2, e_isE3, e_isE4, e_isE5, e_isE6, e_try, e_try1, e_try2, e_eqAS, e_neAS, e_eqAI, e_neAI, e_bind_ok, e_bind_exc, e_bind_stk, e_var, e_var1, e_var2, e_move, e_move1, e_move2, e_C, e_fin1, e_bin, e_bin1, e_bin2, e_chain, e_chain1, e_chain2, e_chain3, e_chain4, e_chain5, e_if, e_if1, e_if2, e_tv, e_tv1, e_notT, e_notT1, e_andT, e_andT1, e_andT2, e_orT, e_orT1, e_orT2, e_andV, e_andV1, e_andV2, e_orV, e_orV1, e_orV2, e_notV, e_notV1, e_aNil, e_aCons, e_aCons1, e_aCons2, e_star, e_star1, e_star2, e_star3, e_lst, e_lst1, e_tup, e_tup1, e_call, e_call1, e_slot, e_slot1, e_sb, e_sb0, e_sb1, e_sb2, e_sb3, e_bs, e_bs1, e_bs2, e_lenV, e_lenV1, e_un, e_un1, e_def, e_def1, e_def2, e_def3, e_fix0, e_fix1, e_fix2, e_def4, e_def0, e_def01, e_jNil, e_jVal, e_jVal1, e_j2, e_jIo, e_jIo1, e_itD0, e_itD1, e_itD2, e_itD3, e_itJ0, e_itJ1, e_itJ2, e_itP0, e_itP1, e_itP2, e_setMany0, e_setMany1, e_nodup0, e_nodup1, e_noPart, e_part, e_part1, e_slice, e_slice1, e_slice2, e_slice3, e_lstRg, e_lstRg1, e_lstRg2, e_iSeq, e_iSeq1, e_iSeq2, e_iEn, e_iEn1, e_iEn2, e_iR1, e_iR11, e_iR2, e_iR21, e_yes, e_lc, e_lc1, e_lc2, e_wipe0, e_wipe1, e_back0, e_back1, e_back2, e_noneOwn0, e_noneOwn1, e_noneOwn2, e_noneOwn3, e_noneOwn4, e_name, e_set, e_tNil, e_tCons, e_tCons1, e_tTup, e_seq, e_seq1, e_seq2, e_seq3, e_seq4, e_seq5, e_next, e_break, e_cont, e_expr, e_expr1, e_ret, e_ret1, e_sIf, e_sIf1, e_sIf2, e_asg, e_asg1, e_asg2, e_aug, e_aug0, e_aug1, e_aug2, e_aug3, e_par, e_par1, e_par2, e_app, e_app0, e_app1, e_app2, e_setIx, e_setIx0, e_setIx1, e_setIx2, e_setIx3, e_setIx4, e_match, e_match1, e_mCase, e_mAny, e_raise, e_for, e_body, e_body1, e_body2, e_body3, e_body4, e_body5, e_outs0, e_outs1, e_outs2, e_start0, e_start1, e_addI, e_addL, e_addI2, e_sub, e_cmp, e_eqI, e_neI, e_eqB, e_isN0, e_isN1, e_isN2, e_isN3, e_notN0, e_notN1, e_notN2, e_notN3, e_int, e_intB, e_max, e_min, e_neg, e_bits, e_lenL, e_lenT, e_lenS, e_ixL, e_ixT, e_ixS, e_at0, e_at1, e_at2, e_map, e_lstOf, e_lstOfS, e_seqOf, e_seqOfT, e_seqOfS, e_isiIB, e_isiII, e_isiTT, e_isiLL]⟩)
    have e7 : ((num .pre h d : Nat) : Int) = d := rfl
    simp [m_plain_sums, b_plain_sums, kn, e_tUnl, e_ext, e_ext0, e_ext1, e_ext2, e_dix, e_dix1, e_dix2, e_look, e_rev, e_rev1, e_lr1, e_lr11, e_isE1, e_isE2, e_isE3, e_isE4, e_isE5, e_isE6, e_try, e_try1, e_try2, e_eqAS, e_neAS, e_eqAI, e_neAI, e_bind_ok, e_bind_exc, e_bind_stk, e_var, e_var1, e_var2, e_move, e_move1, e_move2, e_C, e_fin1, e_bin, e_bin1, e_bin2, e_chain, e_chain1, e_chain2, e_chain3, e_chain4, e_chain5, e_if, e_if1, e_if2, e_tv, e_tv1, e_notT, e_notT1, e_andT, e_andT1, e_andT2, e_orT, e_orT1, e_orT2, e_andV, e_andV1, e_andV2, e_orV, e_orV1, e_orV2, e_notV, e_notV1, e_aNil, e_aCons, e_aCons1, e_aCons2, e_star, e_star1, e_star2, e_star3, e_lst, e_lst1, e_tup, e_tup1, e_call, e_call1, e_slot, e_slot1, e_sb, e_sb0, e_sb1, e_sb2, e_sb3, e_bs, e_bs1, e_bs2, e_lenV, e_lenV1, e_un, e_un1, e_def, e_def1, e_def2, e_def3, e_fix0, e_fix1, e_fix2, e_def4, e_def0, e_def01, e_jNil, e_jVal, e_jVal1, e_j2, e_jIo, e_jIo1, e_itD0, e_itD1, e_itD2, e_itD3, e_itJ0, e_itJ1, e_itJ2, e_itP0, e_itP1, e_itP2, e_setMany0, e_setMany1, e_nodup0, e_nodup1, e_noPart, e_part, e_part1, e_slice, e_slice1, e_slice2, e_slice3, e_lstRg, e_lstRg1, e_lstRg2, e_iSeq, e_iSeq1, e_iSeq2, e_iEn, e_iEn1, e_iEn2, e_iR1, e_iR11, e_iR2, e_iR21, e_yes, e_lc, e_lc1, e_lc2, e_wipe0, e_wipe1, e_back0, e_back1, e_back2, e_noneOwn0, e_noneOwn1, e_noneOwn2, e_noneOwn3, e_noneOwn4, e_name, e_set, e_tNil, e_tCons, e_tCons1, e_tTup, e_seq, e_seq1, e_seq2, e_seq3, e_seq4, e_seq5, e_next, e_break, e_cont, e_expr, e_expr1, e_ret, e_ret1, e_sIf, e_sIf1, e_sIf2, e_asg, e_asg1, e_asg2, e_aug, e_aug0, e_aug1, e_aug2, e_aug3, e_par, e_par1, e_par2, e_app, e_app0, e_app1, e_app2, e_setIx, e_setIx0, e_setIx1, e_setIx2, e_setIx3, e_setIx4, e_match, e_match1, e_mCase, e_mAny, e_raise, e_for, e_body, e_body1, e_body2, e_body3, e_body4, e_body5, e_outs0, e_outs1, e_outs2, e_start0, e_start1, e_addI, e_addL, e_addI2, e_sub, e_cmp, e_eqI, e_neI, e_eqB, e_isN0, e_isN1, e_isN2, e_isN3, e_notN0, e_notN1, e_notN2, e_notN3, e_int, e_intB, e_max, e_min, e_neg, e_bits, e_lenL, e_lenT, e_lenS, e_ixL, e_ixT, e_ixS, e_at0, e_at1, e_at2, e_map, e_lstOf, e_lstOfS, e_seqOf, e_seqOfT, e_seqOfS, e_isiIB, e_isiII, e_isiTT, e_isiLL, e2, e3, e4, e7, l1, l2, zz2, zz3]
  | post =>
    have e1 := sh h d ((h : Int) - d) (by omega) (by omega)
    have e3 := lc_steps d (wz .post h d) ce_plain_sums_1 [some (false, .str z_postorder), some (false, .int h), some (false, .int d), some (false, .list (rgD 1 ((d : Int) + 1))), none] 4 (by
      intro i hi
      have e5 := sh (h - 1) i ((h : Int) - (1 + (i : Int))) (by omega) (by omega)
      have e6 : wz .post h d i = 2 ^ (h - 1 - i) - 1 := pw1 _
      refine ⟨_, false, by simp [e_tUnl, e_ext, e_ext0, e_ext1, e_ext2, e_dix, e_dix1, e_dix2, e_look, e_rev, e_rev1, e_lr1, e_lr11, e_isE1, e_isE2, e_isE3, e_isE4, e_isE5, e_isE6, e_try, e_try1, e_try2, e_eqAS, e_neAS, e_eqAI, e_neAI, e_bind_ok, e_bind_exc, e_bind_stk, e_var, e_var1, e_var2, e_move, e_move1, e_move2, e_C, e_fin1, e_bin, e_bin1, e_bin2, e_chain, e_chain1, e_chain2, e_chain3, e_chain4, e_chain5, e_if, e_if1, e_if2, e_tv, e_tv1, e_notT, e_notT1, e_andT, e_andT1, e_andT2, e_orT, e_orT1, e_orT2, e_andV, e_andV1, e_andV2, e_orV, e_orV1, e_orV2, e_notV, e_notV1, e_aNil, e_aCons, e_aCons1, e_aCons2, e_star, e_star1, e_star2, e_star3, e_lst, e_lst1, e_tup, e_tup1, e_call, e_call1, e_slot, e_slot1, e_sb, e_sb0, e_sb1, e_sb2, e_sb3, e_bs, e_bs1, e_bs2, e_lenV, e_lenV1, e_un, e_un1, e_def, e_def1, e_def2, e_def3, e_fix0, e_fix1, e_fix2, e_def4, e_def0, e_def01, e_jNil, e_jVal, e_jVal1, e_j2, e_jIo, e_jIo1, e_itD0, e_itD1, e_itD2, e_itD3, e_itJ0, e_itJ1, e_itJ2, e_itP0, e_itP1, e_itP2, e_setMany0, e_setMany1, e_nodup0, e_nodup1, e_noPart, e_part, e_part1, e_slice, e_slice1, e_slice2, e_slice3, e_lstRg, e_lstRg1, e_lstRg2, e_iSeq, e_iSeq1, e_iSeq2, e_iEn, e_iEn1, e_iEn2, e_iR1, e_iR11, e_iR2, e_iR21, e_yes, e_lc, e_lc1, e_lc2, e_wipe0, e_wipe1, e_back0, e_back1, e_back2, e_noneOwn0, e_noneOwn1, e_noneOwn2, e_noneOwn3, e_noneOwn4, e_name, e_set, e_tNil, e_tCons, e_tCons1, e_tTup, e_seq, e_seq1, e_seq2, e_seq3, e_seq4, e_seq5, e_next, e_break, e_cont, e_expr, e_expr1, e_ret, e_ret1, e_sIf, e_sIf1, e_sIf2, e_asg, e_asg1, e_asg2, e_aug, e_aug0, e_aug1, e_aug2, e_aug3, e_par, e_par1, e_par2, e_app, e_app0, e_app1, e_app2, e_setIx, e_setIx0, e_setIx1, e_setIx2, e_setIx3, e_setIx4, e_match, e_match1, e_mCase, e_mAny, e_raise, e_for, e_body, e_body1, e_body2, e_body3, e_body4, e_body5, e_outs0, e_outs1, e_outs2, e_start0, e_start1, e_addI, e_addL, e_addI2, e_sub, e_cmp, e_eqI, e_neI, e_eqB, e_isN0, e_isN1, e_isN2, e_isN3, e_notN0, e_notN1, e_notN2, e_notN3, e_int, e_intB, e_max, e_min, e_neg, e_bits, e_lenL, e_lenT, e_lenS, e_ixL, e_ixT, e_ixS, e_at0, e_at1, e_at2, e_map, e_lstOf, e_lstOfS, e_seqOf, e_seqOfT, e_seqOfS, e_isiIB, e_isiII, e_isiTT, e_isiLL]; rfl, by simp [ce_plain_sums_1, e_tUnl, e_ext, e_ext0, e_ext1, e_ext2, e_dix, e_dix1, e_dix2, e_look, e_rev, e_rev1, e_lr1, e_lr11, e_isE1, e_isE2, e_isE3, e_isE4, e_isE5, e_isE6, e_try, e_try1, e_try2, e_eqAS, e_neAS, e_eqAI, e_neAI, e_bind_ok, e_bind_exc, e_bind_stk, e_var, e_var1, e_var2, e_move, e_move1, e_move2, e_C, e_fin1, e_bin, e_bin1, e_bin2, e_chain, e_chain1, e_chain2, e_chain3, e_chain4, e_chain5, e_if, e_if1, e_if2, e_tv, e_tv1, e_notT, e_notT1, e_andT, e_andT1, e_andT2, e_orT, e_orT1, e_orT2, e_andV, e_andV1, e_andV2, e_orV, e_orV1, e_orV2, e_notV, e_notV1, e_aNil, e_aCons, e_aCons1, e_aCons2, e_star, e_star1, e_star2, e_star3, e_lst, e_lst1, e_tup, e_tup1, e_call, e_call1, e_slot, e_slot1, e_sb, e_sb0, e_sb1, e_sb2, e_sb3, e_bs, e_bs1, e_bs2, e_lenV, e_lenV1, e_un, e_un1, e_def, e_def1, e_def2, e_def3, e_fix0, e_fix1, e_fix2, e_def4, e_def0, e_def01, e_jNil, e_jVal, e_jVal1, e_j2, e_jIo, e_jIo1, e_itD0, e_itD1, e_itD2, e_itD3, e_itJ0, e_itJ1, e_itJ2, e_itP0, e_itP1, e_itP2, e_setMany0, e_setMany1, e_nodup0, e_nodup1, e_noPart, e_part, e_part1, e_slice, e_slice1, e_slice2, e_slice3, e_lstRg, e_lstRg1, e_lstRg2, e_iSeq, e_iSeq1, e_iSeq2, e_iEn, e_iEn1, e_iEn2, e_iR1, e_iR11, e_iR2, e_iR21, e_yes, e_lc, e_lc1, e_lc2, e_wipe0, e_wipe1, e_back0, e_back1, e_back2, e_noneOwn0, e_noneOwn1, e_noneOwn2, e_noneOwn3, e_noneOwn4, e_name, e_set, e_tNil, e_tCons, e_tCons1, e_tTup, e_seq, e_seq1, e_seq2, e_seq3, e_seq4, e_seq5, e_next, e_break, e_cont, e_expr, e_expr1, e_ret, e_ret1, e_sIf, e_sIf1, e_sIf2, e_asg, e_asg1, e_asg2, e_aug, e_aug0, e_aug1, e_aug2, e_aug3, e_par, e_par1, e_par2, e_app, e_app0, e_app1, e_app2, e_setIx, e_setIx0, e_setIx1, e_setIx2, e_setIx3, e_setIx4, e_match, e_match1, e_mCase, e_mAny, e_raise, e_for, e_body, e_body1, e_body2, e_body3, e_body4, e_body5, e_outs0, e_outs1, e_outs2, e_start0, e_start1, e_addI, e_addL, e_addI2, e_sub, e_cmp, e_eqI, e_neI, e_eqB, e_isN0, e_isN1, e_isN2, e_isN3, e_notN0, e_notN1, e_notN2, e_notN3, e_int, e_intB, e_max, e_min, e_neg, e_bits, e_lenL, e_lenT, e_lenS, e_ixL, e_ixT, e_ixS, e_at0, e_at1, e_at2, e_map, e_lstOf, e_lstOfS, e_seqOf, e_seqOfT, e_seqOfS, e_isiIB, e_isiII, e_isiTT, e_isiLL, e5, e6], by simp [e_tUnl, e_ext, e_ext0, e_ext1, e_ext2, e_dix, e_dix1, e_dix2, e_look, e_rev, e_rev1, e_lr1, e_lr11, e_isE1, e_isE2, e_isE3, e_isE4, e_isE5, e_isE6, e_try, e_try1, e_try2, e_eqAS, e_neAS, e_eqAI, e_neAI, e_bind_ok, e_bind_exc, e_bind_stk, e_var, e_var1, e_var2, e_move, e_move1, e_move2, e_C, e_fin1, e_bin, e_bin1, e_bin2, e_chain, e_chain1, e_chain2, e_chain3, e_chain4, e_chain5, e_if, e_if1, e_if2, e_tv, e_tv1, e_notT, e_notT1, e_andT, e_andT1, e_andT2, e_orT, e_orT1, e_orT2, e_andV, e_andV1, e_andV2, e_orV, e_orV1, e_orV2, e_notV, e_notV1, e_aNil, e_aCons, e_aCons1, e_aCons2, e_star, e_star1, e_star2, e_star3, e_lst, e_lst1, e_tup, e_tup1, e_call, e_call1, e_slot, e_slot1, e_sb, e_sb0, e_sb1, e_sb2, e_sb3, e_bs, e_bs1, e_bs2, e_lenV, e_lenV1, e_un, e_un1, e_def, e_def1, e_def2, e_def3, e_fix0, e_fix1, e_fix2, e_def4, e_def0, e_def01, e_jNil, e_jVal, e_jVal1, e_j2, e_jIo, e_jIo1, e_itD0, e_itD1, e_itD2, e_itD3, e_itJ0, e_itJ1, e_itJ2, e_itP0, e_itP1, e_itP2, e_setMany0, e_setMany1, e_nodup0, e_nodup1, e_noPart, e_part, e_part1, e_slice, e_slice1, e_slice2, e_slice3, e_lstRg, e_lstRg1, e_lstRg2, e_iSeq, e_iSeq1, e_iSeq2, e_iEn, e_iEn1, e_iEn2, e_iR1, e_iR11, e_iR2, e_iR21, e_yes, e_lc, e_lc1, e_lc2, e_wipe0, e_wipe1, e_back0, e_back1, e_back2, e_noneOwn0, e_noneOwn1, e_noneOwn2, e_noneOwn3, e_noneOwn4, e_name, e_set, e_tNil, e_tCons, e_tCons1, e_tTup, e_seq, e_seq1, e_seq2, e_seq3, e_seq4, e_seq5, e_next, e_break, e_cont, e_expr, e_expr1, e_ret, e_ret1, e_sIf, e_sIf1, e_sIf2, e_asg, e_asg1, e_asg2, e_aug, e_aug0, e_aug1, e_aug2, e_aug3, e_par, e_par1, e_par2, e_app, e_app0, e_app1, e_app2, e_setIx, e_setIx0, e_setIx1, e_setIx2, e_setIx3, e_setIx4, e_match, e_match1, e_mCase, e_mAny, e_raise, e_for, e_body, e_body1, e_body2, e_body3, e_body4, e_body5, e_outs0, e_outs1, e_outs2, e_start0, e_start1, e_addI, e_addL, e_addI2, e_sub, e_cmp, e_eqI, e_neI, e_eqB, e_isN0, e_isN1, e_isN2, e_isN3, e_notN0, e_notN1, e_notN2, e_notN3, e_int, e_intB, e_max, e_min, e_neg, e_bits, e_lenL, e_lenT, e_lenS, e_ixL, e_ixT, e_ixS, e_at0, e_at1, e_at2, e_map, e_lstOf, e_lstOfS, e_seqOf, e_seqOfT, e_seqOfS, e_isiIB, e_isiII, e_isiTT, e_isiLL]⟩)
    have e7 : ((num .post h d : Nat) : Int) = 2 ^ (h - d) - 2 := pw2 _ (by omega)
    simp [m_plain_sums, b_plain_sums, kn, e_tUnl, e_ext, e_ext0, e_ext1, e_ext2, e_dix, e_dix1, e_dix2, e_look, e_rev, e_rev1, e_lr1, e_lr11, e_isE1, e_isE2, e_isE3, e_isE4, e_isE5, e_isE6, e_try, e_try1, e_try2, e_eqAS, e_neAS, e_eqAI, e_neAI, e_bind_ok, e_bind_exc, e_bind_stk, e_var, e_var1, e_var2, e_move, e_move1, e_move2, e_C, e_fin1, e_bin, e_bin1, e_bin2, e_chain, e_chain1, e_chain2, e_chain3, e_chain4, e_chain5, e_if, e_if1, e_if2, e_tv, e_tv1, e_notT, e_notT1, e_andT, e_andT1, e_andT2, e_orT, e_orT1, e_orT2, e_andV, e_andV1, e_andV2, e_orV, e_orV1, e_orV2, e_notV, e_notV1, e_aNil, e_aCons, e_aCons1, e_aCons2, e_star, e_star1, e_star2, e_star3, e_lst, e_lst1, e_tup, e_tup1, e_call, e_call1, e_slot, e_slot1, e_sb, e_sb0, e_sb1, e_sb2, e_sb3, e_bs, e_bs1, e_bs2, e_lenV, e_lenV1, e_un, e_un1, e_def, e_def1, e_def2, e_def3, e_fix0, e_fix1, e_fix2, e_def4, e_def0, e_def01, e_jNil, e_jVal, e_jVal1, e_j2, e_jIo, e_jIo1, e_itD0, e_itD1, e_itD2, e_itD3, e_itJ0, e_itJ1, e_itJ2, e_itP0, e_itP1, e_itP2, e_setMany0, e_setMany1, e_nodup0, e_nodup1, e_noPart, e_part, e_part1, e_slice, e_slice1, e_slice2, e_slice3, e_lstRg, e_lstRg1, e_lstRg2, e_iSeq, e_iSeq1, e_iSeq2, e_iEn, e_iEn1, e_iEn2, e_iR1, e_iR11, e_iR2, e_iR21, e_yes, e_lc, e_lc1, e_lc2, e_wipe0, e_wipe1, e_back0, e_back1, e_back2, e_noneOwn0, e_noneOwn1, e_noneOwn2, e_noneOwn3, e_noneOwn4, e_name, e_set, e_tNil, e_tCons, e_tCons1, e_tTup, e_seq, e_seq1, e_seq2, e_seq3, e_seq4, e_seq5, e_next, e_break, e_cont, e_expr, e_expr1, e_ret, e_ret1, e_sIf, e_sIf1, e_sIf2, e_asg, e_asg1, e_asg2, e_aug, e_aug0, e_aug1, e_aug2, e_aug3, e_par, e_par1, e_par2, e_app, e_app0, e_app1, e_app2, e_setIx, e_setIx0, e_setIx1, e_setIx2, e_setIx3, e_setIx4, e_match, e_match1, e_mCase, e_mAny, e_raise, e_for, e_body, e_body1, e_body2, e_body3, e_body4, e_body5, e_outs0, e_outs1, e_outs2, e_start0, e_start1, e_addI, e_addL, e_addI2, e_sub, e_cmp, e_eqI, e_neI, e_eqB, e_isN0, e_isN1, e_isN2, e_isN3, e_notN0, e_notN1, e_notN2, e_notN3, e_int, e_intB, e_max, e_min, e_neg, e_bits, e_lenL, e_lenT, e_lenS, e_ixL, e_ixT, e_ixS, e_at0, e_at1, e_at2, e_map, e_lstOf, e_lstOfS, e_seqOf, e_seqOfT, e_seqOfS, e_isiIB, e_isiII, e_isiTT, e_isiLL, e1, e2, e3, e4, e7, l1, l2, zz4, zz5, zz6]
  | les => cases hc
  | gre => cases hc
  | pow => cases hc
theorem cutl (k : Kd) (hc : isCut k = true) (h : Nat) (h2 : 2 ≤ h) (hh : h ≤ 100) : m_cut_levels [.str (kn k), .int h] = .ok (.int (topOf k h : Nat), false) [] := by
  have n1 : ((h : Int) == 1) = false := by simp; omega
  have c := cutIn k
  rw [hc] at c
  have p9000 : (2 : Int).natAbs < 2 ^ 9000 := Nat.lt_of_lt_of_le (show (2 : Int).natAbs < 2 ^ 2 by decide) (Nat.pow_le_pow_right (by omega) (by omega))
  have d1 : dDiv (.int h) (.int 2) = some (.int ((h : Int) / 2), false) := dDiv_ok (by omega) p9000
  have d2 : dDiv (.int ((h : Int) + 1)) (.int 2) = some (.int (((h : Int) + 1) / 2), false) := dDiv_ok (by omega) p9000
  cases k with
  | les =>
    have e : ((topOf .les h : Nat) : Int) = (h : Int) / 2 := by show ((h / 2 : Nat) : Int) = _; omega
    simp only [kn] at c ⊢
    simp [m_cut_levels, b_cut_levels, e_tUnl, e_ext, e_ext0, e_ext1, e_ext2, e_dix, e_dix1, e_dix2, e_look, e_rev, e_rev1, e_lr1, e_lr11, e_isE1, e_isE2, e_isE3, e_isE4, e_isE5, e_isE6, e_try, e_try1, e_try2, e_eqAS, e_neAS, e_eqAI, e_neAI, e_bind_ok, e_bind_exc, e_bind_stk, e_var, e_var1, e_var2, e_move, e_move1, e_move2, e_C, e_fin1, e_bin, e_bin1, e_bin2, e_chain, e_chain1, e_chain2, e_chain3, e_chain4, e_chain5, e_if, e_if1, e_if2, e_tv, e_tv1, e_notT, e_notT1, e_andT, e_andT1, e_andT2, e_orT, e_orT1, e_orT2, e_andV, e_andV1, e_andV2, e_orV, e_orV1, e_orV2, e_notV, e_notV1, e_aNil, e_aCons, e_aCons1, e_aCons2, e_star, e_star1, e_star2, e_star3, e_lst, e_lst1, e_tup, e_tup1, e_call, e_call1, e_slot, e_slot1, e_sb, e_sb0, e_sb1, e_sb2, e_sb3, e_bs, e_bs1, e_bs2, e_lenV, e_lenV1, e_un, e_un1, e_def, e_def1, e_def2, e_def3, e_fix0, e_fix1, e_fix2, e_def4, e_def0, e_def01, e_jNil, e_jVal, e_jVal1, e_j2, e_jIo, e_jIo1, e_itD0, e_itD1, e_itD2, e_itD3, e_itJ0, e_itJ1, e_itJ2, e_itP0, e_itP1, e_itP2, e_setMany0, e_setMany1, e_nodup0, e_nodup1, e_noPart, e_part, e_part1, e_slice, e_slice1, e_slice2, e_slice3, e_lstRg, e_lstRg1, e_lstRg2, e_iSeq, e_iSeq1, e_iSeq2, e_iEn, e_iEn1, e_iEn2, e_iR1, e_iR11, e_iR2, e_iR21, e_yes, e_lc, e_lc1, e_lc2, e_wipe0, e_wipe1, e_back0, e_back1, e_back2, e_noneOwn0, e_noneOwn1, e_noneOwn2, e_noneOwn3, e_noneOwn4, e_name, e_set, e_tNil, e_tCons, e_tCons1, e_tTup, e_seq, e_seq1, e_seq2, e_seq3, e_seq4, e_seq5, e_next, e_break, e_cont, e_expr, e_expr1, e_ret, e_ret1, e_sIf, e_sIf1, e_sIf2, e_asg, e_asg1, e_asg2, e_aug, e_aug0, e_aug1, e_aug2, e_aug3, e_par, e_par1, e_par2, e_app, e_app0, e_app1, e_app2, e_setIx, e_setIx0, e_setIx1, e_setIx2, e_setIx3, e_setIx4, e_match, e_match1, e_mCase, e_mAny, e_raise, e_for, e_body, e_body1, e_body2, e_body3, e_body4, e_body5, e_outs0, e_outs1, e_outs2, e_start0, e_start1, e_addI, e_addL, e_addI2, e_sub, e_cmp, e_eqI, e_neI, e_eqB, e_isN0, e_isN1, e_isN2, e_isN3, e_notN0, e_notN1, e_notN2, e_notN3, e_int, e_intB, e_max, e_min, e_neg, e_bits, e_lenL, e_lenT, e_lenS, e_ixL, e_ixT, e_ixS, e_at0, e_at1, e_at2, e_map, e_lstOf, e_lstOfS, e_seqOf, e_seqOfT, e_seqOfS, e_isiIB, e_isiII, e_isiTT, e_isiLL, c, n1, d1, e]
  | gre =>
    have e : ((topOf .gre h : Nat) : Int) = ((h : Int) + 1) / 2 := by show (((h + 1) / 2 : Nat) : Int) = _; omega
    simp only [kn] at c ⊢
    simp [m_cut_levels, b_cut_levels, e_tUnl, e_ext, e_ext0, e_ext1, e_ext2, e_dix, e_dix1, e_dix2, e_look, e_rev, e_rev1, e_lr1, e_lr11, e_isE1, e_isE2, e_isE3, e_isE4, e_isE5, e_isE6, e_try, e_try1, e_try2, e_eqAS, e_neAS, e_eqAI, e_neAI, e_bind_ok, e_bind_exc, e_bind_stk, e_var, e_var1, e_var2, e_move, e_move1, e_move2, e_C, e_fin1, e_bin, e_bin1, e_bin2, e_chain, e_chain1, e_chain2, e_chain3, e_chain4, e_chain5, e_if, e_if1, e_if2, e_tv, e_tv1, e_notT, e_notT1, e_andT, e_andT1, e_andT2, e_orT, e_orT1, e_orT2, e_andV, e_andV1, e_andV2, e_orV, e_orV1, e_orV2, e_notV, e_notV1, e_aNil, e_aCons, e_aCons1, e_aCons2, e_star, e_star1, e_star2, e_star3, e_lst, e_lst1, e_tup, e_tup1, e_call, e_call1, e_slot, e_slot1, e_sb, e_sb0, e_sb1, e_sb2, e_sb3, e_bs, e_bs1, e_bs2, e_lenV, e_lenV1, e_un, e_un1, e_def, e_def1, e_def2, e_def3, e_fix0, e_fix1, e_fix2, e_def4, e_def0, e_def01, e_jNil, e_jVal, e_jVal1, e_j2, e_jIo, e_jIo1, e_itD0, e_itD1, e_itD2, e_itD3, e_itJ0, e_itJ1, e_itJ2, e_itP0, e_itP1, e_itP2, e_setMany0, e_setMany1, e_nodup0, e_nodup1, e_noPart, e_part, e_part1, e_slice, e_slice1, e_slice2, e_slice3, e_lstRg, e_lstRg1, e_lstRg2, e_iSeq, e_iSeq1, e_iSeq2, e_iEn, e_iEn1, e_iEn2, e_iR1, e_iR11, e_iR2, e_iR21, e_yes, e_lc, e_lc1, e_lc2, e_wipe0, e_wipe1, e_back0, e_back1, e_back2, e_noneOwn0, e_noneOwn1, e_noneOwn2, e_noneOwn3, e_noneOwn4, e_name, e_set, e_tNil, e_tCons, e_tCons1, e_tTup, e_seq, e_seq1, e_seq2, e_seq3, e_seq4, e_seq5, e_next, e_break, e_cont, e_expr, e_expr1, e_ret, e_ret1, e_sIf, e_sIf1, e_sIf2, e_asg, e_asg1, e_asg2, e_aug, e_aug0, e_aug1, e_aug2, e_aug3, e_par, e_par1, e_par2, e_app, e_app0, e_app1, e_app2, e_setIx, e_setIx0, e_setIx1, e_setIx2, e_setIx3, e_setIx4, e_match, e_match1, e_mCase, e_mAny, e_raise, e_for, e_body, e_body1, e_body2, e_body3, e_body4, e_body5, e_outs0, e_outs1, e_outs2, e_start0, e_start1, e_addI, e_addL, e_addI2, e_sub, e_cmp, e_eqI, e_neI, e_eqB, e_isN0, e_isN1, e_isN2, e_isN3, e_notN0, e_notN1, e_notN2, e_notN3, e_int, e_intB, e_max, e_min, e_neg, e_bits, e_lenL, e_lenT, e_lenS, e_ixL, e_ixT, e_ixS, e_at0, e_at1, e_at2, e_map, e_lstOf, e_lstOfS, e_seqOf, e_seqOfT, e_seqOfS, e_isiIB, e_isiII, e_isiTT, e_isiLL, c, n1, d2, e, zz7]
  | pow =>
    have b1 : Builtin.Int.intBits ((h : Int) - 1) = Nat.log2 (h - 1) + 1 := by
      rw [show (h : Int) - 1 = ((h - 1 : Nat) : Int) by omega]
      unfold Builtin.Int.intBits
      have z : ¬ h - 1 = 0 := by omega
      simp [z]
    have l : Nat.log2 (h - 1) ≤ 100 := by
      have a : 2 ^ Nat.log2 (h - 1) ≤ h - 1 := Nat.log2_self_le (by omega)
      have := Nat.lt_two_pow_self (n := Nat.log2 (h - 1))
      omega
    have e1 := shl1 (Nat.log2 (h - 1)) (by omega)
    have e : ((topOf .pow h : Nat) : Int) = (h : Int) - 2 ^ Nat.log2 (h - 1) := by
      have a : 2 ^ Nat.log2 (h - 1) ≤ h - 1 := Nat.log2_self_le (by omega)
      have := pw (Nat.log2 (h - 1))
      show ((h - 2 ^ Nat.log2 (h - 1) : Nat) : Int) = _
      omega
    simp only [kn] at c ⊢
    simp [m_cut_levels, b_cut_levels, e_tUnl, e_ext, e_ext0, e_ext1, e_ext2, e_dix, e_dix1, e_dix2, e_look, e_rev, e_rev1, e_lr1, e_lr11, e_isE1, e_isE2, e_isE3, e_isE4, e_isE5, e_isE6, e_try, e_try1, e_try2, e_eqAS, e_neAS, e_eqAI, e_neAI, e_bind_ok, e_bind_exc, e_bind_stk, e_var, e_var1, e_var2, e_move, e_move1, e_move2, e_C, e_fin1, e_bin, e_bin1, e_bin2, e_chain, e_chain1, e_chain2, e_chain3, e_chain4, e_chain5, e_if, e_if1, e_if2, e_tv, e_tv1, e_notT, e_notT1, e_andT, e_andT1, e_andT2, e_orT, e_orT1, e_orT2, e_andV, e_andV1, e_andV2, e_orV, e_orV1, e_orV2, e_notV, e_notV1, e_aNil, e_aCons, e_aCons1, e_aCons2, e_star, e_star1, e_star2, e_star3, e_lst, e_lst1, e_tup, e_tup1, e_call, e_call1, e_slot, e_slot1, e_sb, e_sb0, e_sb1, e_sb2, e_sb3, e_bs, e_bs1, e_bs2, e_lenV, e_lenV1, e_un, e_un1, e_def, e_def1, e_def2, e_def3, e_fix0, e_fix1, e_fix2, e_def4, e_def0, e_def01, e_jNil, e_jVal, e_jVal1, e_j2, e_jIo, e_jIo1, e_itD0, e_itD1, e_itD2, e_itD3, e_itJ0, e_itJ1, e_itJ2, e_itP0, e_itP1, e_itP2, e_setMany0, e_setMany1, e_nodup0, e_nodup1, e_noPart, e_part, e_part1, e_slice, e_slice1, e_slice2, e_slice3, e_lstRg, e_lstRg1, e_lstRg2, e_iSeq, e_iSeq1, e_iSeq2, e_iEn, e_iEn1, e_iEn2, e_iR1, e_iR11, e_iR2, e_iR21, e_yes, e_lc, e_lc1, e_lc2, e_wipe0, e_wipe1, e_back0, e_back1, e_back2, e_noneOwn0, e_noneOwn1, e_noneOwn2, e_noneOwn3, e_noneOwn4, e_name, e_set, e_tNil, e_tCons, e_tCons1, e_tTup, e_seq, e_seq1, e_seq2, e_seq3, e_seq4, e_seq5, e_next, e_break, e_cont, e_expr, e_expr1, e_ret, e_ret1, e_sIf, e_sIf1, e_sIf2, e_asg, e_asg1, e_asg2, e_aug, e_aug0, e_aug1, e_aug2, e_aug3, e_par, e_par1, e_par2, e_app, e_app0, e_app1, e_app2, e_setIx, e_setIx0, e_setIx1, e_setIx2, e_setIx3, e_setIx4, e_match, e_match1, e_mCase, e_mAny, e_raise, e_for, e_body, e_body1, e_body2, e_body3, e_body4, e_body5, e_outs0, e_outs1, e_outs2, e_start0, e_start1, e_addI, e_addL, e_addI2, e_sub, e_cmp, e_eqI, e_neI, e_eqB, e_isN0, e_isN1, e_isN2, e_isN3, e_notN0, e_notN1, e_notN2, e_notN3, e_int, e_intB, e_max, e_min, e_neg, e_bits, e_lenL, e_lenT, e_lenS, e_ixL, e_ixT, e_ixS, e_at0, e_at1, e_at2, e_map, e_lstOf, e_lstOfS, e_seqOf, e_seqOfT, e_seqOfS, e_isiIB, e_isiII, e_isiTT, e_isiLL, c, n1, b1, e, e1, zz8, zz9]
  | lev => cases hc
  | ino => cases hc
  | pre => cases hc
  | post => cases hc
end SM
namespace SM
open PySem PySem.Spec DL
open PyProof.Rows hiding St
theorem wsD_app (a b : Nat) (w : Nat → Int) : wsD (a + b) w = wsD a w ++ wsD b (fun i => w (a + i)) := by
  unfold wsD
  rw [List.range_add, List.map_append, List.map_map]
  rfl
theorem wsD_congr (d : Nat) {w w' : Nat → Int} (h : ∀ i, i < d → w i = w' i) : wsD d w = wsD d w' := by
  unfold wsD
  refine List.map_congr_left fun i hi => ?_
  rw [h i (List.mem_range.mp hi)]
theorem sums_cut (k : Kd) (hc : isCut k = true) (h d : Nat) (hd : d < h) (hh : h ≤ 100) :
    m_sums_of [.str (kn k), .int h, .int d] = .ok (.tuple [.int (num k h d : Nat), .list (wsD d (wz k h d))], false) [] := by
  have c := cutIn k
  rw [hc] at c
  have l2 : 2 ≤ LINE := by show 2 ≤ 16777216; omega
  have l4 : 4 ≤ LINE := by show 4 ≤ 16777216; omega
  have key := whD_inv (gt := wt_sums_of_1) (body := wb_sums_of_1)
    (n := h - 1) (δ := [some (false, .str (kn k)), some (false, .int h), some (false, .int d), some (false, .int 0), some (false, .list []), some (false, .int h), some (false, .int d), none, none, none])
    (fun m δ => ∃ (lf nm : Nat) (acc : List D) (x7 x8 : Option (Bool × D)) (b4 : Bool), δ = [some (false, .str (kn k)), some (false, .int h), some (false, .int d), some (false, .int nm), some (b4, .list acc), some (false, .int ((m + 1 : Nat) : Int)), some (false, .int lf), x7, x8, none]
      ∧ lf < m + 1 ∧ m + 1 ≤ 100 ∧ nm + num k (m + 1) lf = num k h d ∧ acc.length + lf = d ∧ acc ++ wsD lf (wz k (m + 1) lf) = wsD d (wz k h d))
    ⟨d, 0, [], none, none, false, by rw [show h - 1 + 1 = h by omega]; rfl, by omega, by omega, by rw [show h - 1 + 1 = h by omega]; omega, by simp, by rw [show h - 1 + 1 = h by omega]; rfl⟩ ?_ 200 (by omega)
  · obtain ⟨δ', h1, lf, nm, acc, x7, x8, b4, h2, h3, h4, h5, h6⟩ := key
    have e0 : lf = 0 := by omega
    subst e0
    have e1 : num k (0 + 1) 0 = 0 := num_1 hc (by omega)
    rw [e1] at h5
    have e2 : wsD 0 (wz k (0 + 1) 0) = [] := rfl
    obtain ⟨h6, h7⟩ := h6
    rw [e2, List.append_nil] at h7
    have e3 : nm = num k h d := by omega
    subst e3
    subst h2
    subst h7
    have w : sWhile 200 wt_sums_of_1 wb_sums_of_1 _ = _ := h1
    cases b4 <;> simp [m_sums_of, b_sums_of, e_tUnl, e_ext, e_ext0, e_ext1, e_ext2, e_dix, e_dix1, e_dix2, e_look, e_rev, e_rev1, e_lr1, e_lr11, e_isE1, e_isE2, e_isE3, e_isE4, e_isE5, e_isE6, e_try, e_try1, e_try2, e_eqAS, e_neAS, e_eqAI, e_neAI, e_bind_ok, e_bind_exc, e_bind_stk, e_var, e_var1, e_var2, e_move, e_move1, e_move2, e_C, e_fin1, e_bin, e_bin1, e_bin2, e_chain, e_chain1, e_chain2, e_chain3, e_chain4, e_chain5, e_if, e_if1, e_if2, e_tv, e_tv1, e_notT, e_notT1, e_andT, e_andT1, e_andT2, e_orT, e_orT1, e_orT2, e_andV, e_andV1, e_andV2, e_orV, e_orV1, e_orV2, e_notV, e_notV1, e_aNil, e_aCons, e_aCons1, e_aCons2, e_star, e_star1, e_star2, e_star3, e_lst, e_lst1, e_tup, e_tup1, e_call, e_call1, e_slot, e_slot1, e_sb, e_sb0, e_sb1, e_sb2, e_sb3, e_bs, e_bs1, e_bs2, e_lenV, e_lenV1, e_un, e_un1, e_def, e_def1, e_def2, e_def3, e_fix0, e_fix1, e_fix2, e_def4, e_def0, e_def01, e_jNil, e_jVal, e_jVal1, e_j2, e_jIo, e_jIo1, e_itD0, e_itD1, e_itD2, e_itD3, e_itJ0, e_itJ1, e_itJ2, e_itP0, e_itP1, e_itP2, e_setMany0, e_setMany1, e_nodup0, e_nodup1, e_noPart, e_part, e_part1, e_slice, e_slice1, e_slice2, e_slice3, e_lstRg, e_lstRg1, e_lstRg2, e_iSeq, e_iSeq1, e_iSeq2, e_iEn, e_iEn1, e_iEn2, e_iR1, e_iR11, e_iR2, e_iR21, e_yes, e_lc, e_lc1, e_lc2, e_wipe0, e_wipe1, e_back0, e_back1, e_back2, e_noneOwn0, e_noneOwn1, e_noneOwn2, e_noneOwn3, e_noneOwn4, e_name, e_set, e_tNil, e_tCons, e_tCons1, e_tTup, e_seq, e_seq1, e_seq2, e_seq3, e_seq4, e_seq5, e_next, e_break, e_cont, e_expr, e_expr1, e_ret, e_ret1, e_sIf, e_sIf1, e_sIf2, e_asg, e_asg1, e_asg2, e_aug, e_aug0, e_aug1, e_aug2, e_aug3, e_par, e_par1, e_par2, e_app, e_app0, e_app1, e_app2, e_setIx, e_setIx0, e_setIx1, e_setIx2, e_setIx3, e_setIx4, e_match, e_match1, e_mCase, e_mAny, e_raise, e_for, e_body, e_body1, e_body2, e_body3, e_body4, e_body5, e_outs0, e_outs1, e_outs2, e_start0, e_start1, e_addI, e_addL, e_addI2, e_sub, e_cmp, e_eqI, e_neI, e_eqB, e_isN0, e_isN1, e_isN2, e_isN3, e_notN0, e_notN1, e_notN2, e_notN3, e_int, e_intB, e_max, e_min, e_neg, e_bits, e_lenL, e_lenT, e_lenS, e_ixL, e_ixT, e_ixS, e_at0, e_at1, e_at2, e_map, e_lstOf, e_lstOfS, e_seqOf, e_seqOfT, e_seqOfS, e_isiIB, e_isiII, e_isiTT, e_isiLL, c, l2, l4, w]
  · rintro m δ hm ⟨lf, nm, acc, x7, x8, b4, rfl, q1, q2, q3, q4, q5⟩
    cases m with
    | zero =>
      refine .inl ⟨_, ?_, ⟨lf, nm, acc, x7, x8, b4, rfl, q1, q2, q3, q4, q5⟩, rfl, rfl⟩
      simp [wt_sums_of_1, e_tUnl, e_ext, e_ext0, e_ext1, e_ext2, e_dix, e_dix1, e_dix2, e_look, e_rev, e_rev1, e_lr1, e_lr11, e_isE1, e_isE2, e_isE3, e_isE4, e_isE5, e_isE6, e_try, e_try1, e_try2, e_eqAS, e_neAS, e_eqAI, e_neAI, e_bind_ok, e_bind_exc, e_bind_stk, e_var, e_var1, e_var2, e_move, e_move1, e_move2, e_C, e_fin1, e_bin, e_bin1, e_bin2, e_chain, e_chain1, e_chain2, e_chain3, e_chain4, e_chain5, e_if, e_if1, e_if2, e_tv, e_tv1, e_notT, e_notT1, e_andT, e_andT1, e_andT2, e_orT, e_orT1, e_orT2, e_andV, e_andV1, e_andV2, e_orV, e_orV1, e_orV2, e_notV, e_notV1, e_aNil, e_aCons, e_aCons1, e_aCons2, e_star, e_star1, e_star2, e_star3, e_lst, e_lst1, e_tup, e_tup1, e_call, e_call1, e_slot, e_slot1, e_sb, e_sb0, e_sb1, e_sb2, e_sb3, e_bs, e_bs1, e_bs2, e_lenV, e_lenV1, e_un, e_un1, e_def, e_def1, e_def2, e_def3, e_fix0, e_fix1, e_fix2, e_def4, e_def0, e_def01, e_jNil, e_jVal, e_jVal1, e_j2, e_jIo, e_jIo1, e_itD0, e_itD1, e_itD2, e_itD3, e_itJ0, e_itJ1, e_itJ2, e_itP0, e_itP1, e_itP2, e_setMany0, e_setMany1, e_nodup0, e_nodup1, e_noPart, e_part, e_part1, e_slice, e_slice1, e_slice2, e_slice3, e_lstRg, e_lstRg1, e_lstRg2, e_iSeq, e_iSeq1, e_iSeq2, e_iEn, e_iEn1, e_iEn2, e_iR1, e_iR11, e_iR2, e_iR21, e_yes, e_lc, e_lc1, e_lc2, e_wipe0, e_wipe1, e_back0, e_back1, e_back2, e_noneOwn0, e_noneOwn1, e_noneOwn2, e_noneOwn3, e_noneOwn4, e_name, e_set, e_tNil, e_tCons, e_tCons1, e_tTup, e_seq, e_seq1, e_seq2, e_seq3, e_seq4, e_seq5, e_next, e_break, e_cont, e_expr, e_expr1, e_ret, e_ret1, e_sIf, e_sIf1, e_sIf2, e_asg, e_asg1, e_asg2, e_aug, e_aug0, e_aug1, e_aug2, e_aug3, e_par, e_par1, e_par2, e_app, e_app0, e_app1, e_app2, e_setIx, e_setIx0, e_setIx1, e_setIx2, e_setIx3, e_setIx4, e_match, e_match1, e_mCase, e_mAny, e_raise, e_for, e_body, e_body1, e_body2, e_body3, e_body4, e_body5, e_outs0, e_outs1, e_outs2, e_start0, e_start1, e_addI, e_addL, e_addI2, e_sub, e_cmp, e_eqI, e_neI, e_eqB, e_isN0, e_isN1, e_isN2, e_isN3, e_notN0, e_notN1, e_notN2, e_notN3, e_int, e_intB, e_max, e_min, e_neg, e_bits, e_lenL, e_lenT, e_lenS, e_ixL, e_ixT, e_ixS, e_at0, e_at1, e_at2, e_map, e_lstOf, e_lstOfS, e_seqOf, e_seqOfT, e_seqOfS, e_isiIB, e_isiII, e_isiTT, e_isiLL]
    | succ m =>
      refine .inr ⟨m, [some (false, .str (kn k)), some (false, .int h), some (false, .int d), some (false, .int nm), some (b4, .list acc), some (false, .int ((m + 1 + 1 : Nat) : Int)), some (false, .int lf), x7, x8, none], ?_⟩
      obtain ⟨t1, t2⟩ := topOf_b k (m + 1 + 1) (by omega)
      have cl := cutl k hc (m + 1 + 1) (by omega) q2
      have cl' : m_cut_levels [.str (kn k), .int ((m + 1 + 1 : Nat) : Int)] = .ok (.int (topOf k (m + 1 + 1) : Nat), false) [] := cl
      have g1 : wt_sums_of_1 [some (false, .str (kn k)), some (false, .int h), some (false, .int d), some (false, .int nm), some (b4, .list acc), some (false, .int ((m + 1 + 1 : Nat) : Int)), some (false, .int lf), x7, x8, none] = .ok true [some (false, .str (kn k)), some (false, .int h), some (false, .int d), some (false, .int nm), some (b4, .list acc), some (false, .int ((m + 1 + 1 : Nat) : Int)), some (false, .int lf), x7, x8, none] := by
        have c1 : (1 : Int) < ((m + 1 + 1 : Nat) : Int) := by omega
        generalize ((m + 1 + 1 : Nat) : Int) = z at *
        simp [wt_sums_of_1, e_tUnl, e_ext, e_ext0, e_ext1, e_ext2, e_dix, e_dix1, e_dix2, e_look, e_rev, e_rev1, e_lr1, e_lr11, e_isE1, e_isE2, e_isE3, e_isE4, e_isE5, e_isE6, e_try, e_try1, e_try2, e_eqAS, e_neAS, e_eqAI, e_neAI, e_bind_ok, e_bind_exc, e_bind_stk, e_var, e_var1, e_var2, e_move, e_move1, e_move2, e_C, e_fin1, e_bin, e_bin1, e_bin2, e_chain, e_chain1, e_chain2, e_chain3, e_chain4, e_chain5, e_if, e_if1, e_if2, e_tv, e_tv1, e_notT, e_notT1, e_andT, e_andT1, e_andT2, e_orT, e_orT1, e_orT2, e_andV, e_andV1, e_andV2, e_orV, e_orV1, e_orV2, e_notV, e_notV1, e_aNil, e_aCons, e_aCons1, e_aCons2, e_star, e_star1, e_star2, e_star3, e_lst, e_lst1, e_tup, e_tup1, e_call, e_call1, e_slot, e_slot1, e_sb, e_sb0, e_sb1, e_sb2, e_sb3, e_bs, e_bs1, e_bs2, e_lenV, e_lenV1, e_un, e_un1, e_def, e_def1, e_def2, e_def3, e_fix0, e_fix1, e_fix2, e_def4, e_def0, e_def01, e_jNil, e_jVal, e_jVal1, e_j2, e_jIo, e_jIo1, e_itD0, e_itD1, e_itD2, e_itD3, e_itJ0, e_itJ1, e_itJ2, e_itP0, e_itP1, e_itP2, e_setMany0, e_setMany1, e_nodup0, e_nodup1, e_noPart, e_part, e_part1, e_slice, e_slice1, e_slice2, e_slice3, e_lstRg, e_lstRg1, e_lstRg2, e_iSeq, e_iSeq1, e_iSeq2, e_iEn, e_iEn1, e_iEn2, e_iR1, e_iR11, e_iR2, e_iR21, e_yes, e_lc, e_lc1, e_lc2, e_wipe0, e_wipe1, e_back0, e_back1, e_back2, e_noneOwn0, e_noneOwn1, e_noneOwn2, e_noneOwn3, e_noneOwn4, e_name, e_set, e_tNil, e_tCons, e_tCons1, e_tTup, e_seq, e_seq1, e_seq2, e_seq3, e_seq4, e_seq5, e_next, e_break, e_cont, e_expr, e_expr1, e_ret, e_ret1, e_sIf, e_sIf1, e_sIf2, e_asg, e_asg1, e_asg2, e_aug, e_aug0, e_aug1, e_aug2, e_aug3, e_par, e_par1, e_par2, e_app, e_app0, e_app1, e_app2, e_setIx, e_setIx0, e_setIx1, e_setIx2, e_setIx3, e_setIx4, e_match, e_match1, e_mCase, e_mAny, e_raise, e_for, e_body, e_body1, e_body2, e_body3, e_body4, e_body5, e_outs0, e_outs1, e_outs2, e_start0, e_start1, e_addI, e_addL, e_addI2, e_sub, e_cmp, e_eqI, e_neI, e_eqB, e_isN0, e_isN1, e_isN2, e_isN3, e_notN0, e_notN1, e_notN2, e_notN3, e_int, e_intB, e_max, e_min, e_neg, e_bits, e_lenL, e_lenT, e_lenS, e_ixL, e_ixT, e_ixS, e_at0, e_at1, e_at2, e_map, e_lstOf, e_lstOfS, e_seqOf, e_seqOfT, e_seqOfS, e_isiIB, e_isiII, e_isiTT, e_isiLL, c1]
      by_cases ct : lf < topOf k (m + 1 + 1)
      · refine ⟨[some (false, .str (kn k)), some (false, .int h), some (false, .int d), some (false, .int nm), some (b4, .list acc), some (false, .int ((topOf k (m + 1 + 1) - 1 + 1 : Nat) : Int)), some (false, .int lf), some (false, .int (topOf k (m + 1 + 1) : Nat)), x8, none], rfl, g1, ?_, topOf k (m + 1 + 1) - 1, by omega, ?_⟩
        · rw [show topOf k (m + 1 + 1) - 1 + 1 = topOf k (m + 1 + 1) by omega]
          have c1 : (lf : Int) < (topOf k (m + 1 + 1) : Nat) := by omega
          generalize ((topOf k (m + 1 + 1) : Nat) : Int) = T at *
          generalize ((m + 1 + 1 : Nat) : Int) = z at *
          simp [wb_sums_of_1, e_tUnl, e_ext, e_ext0, e_ext1, e_ext2, e_dix, e_dix1, e_dix2, e_look, e_rev, e_rev1, e_lr1, e_lr11, e_isE1, e_isE2, e_isE3, e_isE4, e_isE5, e_isE6, e_try, e_try1, e_try2, e_eqAS, e_neAS, e_eqAI, e_neAI, e_bind_ok, e_bind_exc, e_bind_stk, e_var, e_var1, e_var2, e_move, e_move1, e_move2, e_C, e_fin1, e_bin, e_bin1, e_bin2, e_chain, e_chain1, e_chain2, e_chain3, e_chain4, e_chain5, e_if, e_if1, e_if2, e_tv, e_tv1, e_notT, e_notT1, e_andT, e_andT1, e_andT2, e_orT, e_orT1, e_orT2, e_andV, e_andV1, e_andV2, e_orV, e_orV1, e_orV2, e_notV, e_notV1, e_aNil, e_aCons, e_aCons1, e_aCons2, e_star, e_star1, e_star2, e_star3, e_lst, e_lst1, e_tup, e_tup1, e_call, e_call1, e_slot, e_slot1, e_sb, e_sb0, e_sb1, e_sb2, e_sb3, e_bs, e_bs1, e_bs2, e_lenV, e_lenV1, e_un, e_un1, e_def, e_def1, e_def2, e_def3, e_fix0, e_fix1, e_fix2, e_def4, e_def0, e_def01, e_jNil, e_jVal, e_jVal1, e_j2, e_jIo, e_jIo1, e_itD0, e_itD1, e_itD2, e_itD3, e_itJ0, e_itJ1, e_itJ2, e_itP0, e_itP1, e_itP2, e_setMany0, e_setMany1, e_nodup0, e_nodup1, e_noPart, e_part, e_part1, e_slice, e_slice1, e_slice2, e_slice3, e_lstRg, e_lstRg1, e_lstRg2, e_iSeq, e_iSeq1, e_iSeq2, e_iEn, e_iEn1, e_iEn2, e_iR1, e_iR11, e_iR2, e_iR21, e_yes, e_lc, e_lc1, e_lc2, e_wipe0, e_wipe1, e_back0, e_back1, e_back2, e_noneOwn0, e_noneOwn1, e_noneOwn2, e_noneOwn3, e_noneOwn4, e_name, e_set, e_tNil, e_tCons, e_tCons1, e_tTup, e_seq, e_seq1, e_seq2, e_seq3, e_seq4, e_seq5, e_next, e_break, e_cont, e_expr, e_expr1, e_ret, e_ret1, e_sIf, e_sIf1, e_sIf2, e_asg, e_asg1, e_asg2, e_aug, e_aug0, e_aug1, e_aug2, e_aug3, e_par, e_par1, e_par2, e_app, e_app0, e_app1, e_app2, e_setIx, e_setIx0, e_setIx1, e_setIx2, e_setIx3, e_setIx4, e_match, e_match1, e_mCase, e_mAny, e_raise, e_for, e_body, e_body1, e_body2, e_body3, e_body4, e_body5, e_outs0, e_outs1, e_outs2, e_start0, e_start1, e_addI, e_addL, e_addI2, e_sub, e_cmp, e_eqI, e_neI, e_eqB, e_isN0, e_isN1, e_isN2, e_isN3, e_notN0, e_notN1, e_notN2, e_notN3, e_int, e_intB, e_max, e_min, e_neg, e_bits, e_lenL, e_lenT, e_lenS, e_ixL, e_ixT, e_ixS, e_at0, e_at1, e_at2, e_map, e_lstOf, e_lstOfS, e_seqOf, e_seqOfT, e_seqOfS, e_isiIB, e_isiII, e_isiTT, e_isiLL, cl', c1]
        · refine ⟨lf, nm, acc, _, _, b4, rfl, by omega, by omega, ?_, q4, ?_⟩
          · rw [show topOf k (m + 1 + 1) - 1 + 1 = topOf k (m + 1 + 1) by omega, ← num_t hc (by omega) ct]
            exact q3
          · rw [show topOf k (m + 1 + 1) - 1 + 1 = topOf k (m + 1 + 1) by omega, ← q5]
            congr 1
            exact wsD_congr _ fun i _ => by unfold wz; rw [ws_t hc (by omega) ct]
      · generalize hT : topOf k (m + 1 + 1) = T at *
        have lfT : T ≤ lf := by omega
        refine ⟨[some (false, .str (kn k)), some (false, .int h), some (false, .int d), some (false, .int ((nm + (2 ^ T - 1) : Nat) : Int)), some (true, .list (acc ++ wsD T (fun i => (((2 ^ (m + 1 + 1 - T) - 1) * 2 ^ (T - 1 - i) : Nat) : Int)))), some (false, .int ((m + 1 - T + 1 : Nat) : Int)), some (false, .int ((lf - T : Nat) : Int)), some (false, .int (T : Nat)), some (false, .int ((2 ^ (m + 1 + 1 - T) - 1 : Nat) : Int)), none], rfl, g1, ?_, m + 1 - T, by omega, ?_⟩
        · have s1 : dShl (.int 1) (.int (((m + 1 + 1 : Nat) : Int) - (T : Int))) = some (.int (2 ^ (m + 1 + 1 - T)), false) := by
            rw [show ((m + 1 + 1 : Nat) : Int) - (T : Int) = ((m + 1 + 1 - T : Nat) : Int) by omega]
            exact shl1 _ (by omega)
          have s2 := shl1 T (by omega)
          have s3 := pw1 T
          have s4 := pw1 (m + 1 + 1 - T)
          have c1 : ¬ (lf : Int) < (T : Int) := by omega
          have r1 : rgOk 1 ((T : Int) + 1) = true := rg_ok _ _ (by omega) (by omega) (by omega) (by omega)
          have ln : (rgN 1 T).length = T := by simp [rgN]
          have lq : (wsD T (fun i => (((2 ^ (m + 1 + 1 - T) - 1) * 2 ^ (T - 1 - i) : Nat) : Int))).length = T := wsD_len _ _
          have l1 : T ≤ LINE := by show T ≤ 16777216; omega
          have l3 : acc.length + T ≤ LINE := by show _ ≤ 16777216; omega
          have l5 : acc.length ≤ LINE := by show _ ≤ 16777216; omega
          have e3 := lc_stepsN T (fun i => (((2 ^ (m + 1 + 1 - T) - 1) * 2 ^ (T - 1 - i) : Nat) : Int)) ce_sums_of_1
            [some (false, .str (kn k)), some (false, .int h), some (false, .int d), some (false, .int ((nm : Int) + (2 ^ T - 1))), some (false, .list acc), some (false, .int ((m + 1 + 1 : Nat) : Int)), some (false, .int lf), some (false, .int (T : Nat)), some (false, .int (2 ^ (m + 1 + 1 - T) - 1)), none] 9 (by
            intro i hi
            have e5 : dShl (.int (2 ^ (m + 1 + 1 - T) - 1)) (.int ((T : Int) - (1 + (i : Int)))) = some (.int (((2 ^ (m + 1 + 1 - T) - 1) * 2 ^ (T - 1 - i) : Nat) : Int), false) := by
              rw [← s4, dShl_ok (m + 1 + 1 - T) (by have := p2pos (m + 1 + 1 - T); omega) (by omega) (by omega) (by omega), show ((T : Int) - (1 + (i : Int))).toNat = T - 1 - i by omega, Int.natCast_mul, pw]
            generalize ((m + 1 + 1 : Nat) : Int) = z at *
            refine ⟨_, false, by simp [e_tUnl, e_ext, e_ext0, e_ext1, e_ext2, e_dix, e_dix1, e_dix2, e_look, e_rev, e_rev1, e_lr1, e_lr11, e_isE1, e_isE2, e_isE3, e_isE4, e_isE5, e_isE6, e_try, e_try1, e_try2, e_eqAS, e_neAS, e_eqAI, e_neAI, e_bind_ok, e_bind_exc, e_bind_stk, e_var, e_var1, e_var2, e_move, e_move1, e_move2, e_C, e_fin1, e_bin, e_bin1, e_bin2, e_chain, e_chain1, e_chain2, e_chain3, e_chain4, e_chain5, e_if, e_if1, e_if2, e_tv, e_tv1, e_notT, e_notT1, e_andT, e_andT1, e_andT2, e_orT, e_orT1, e_orT2, e_andV, e_andV1, e_andV2, e_orV, e_orV1, e_orV2, e_notV, e_notV1, e_aNil, e_aCons, e_aCons1, e_aCons2, e_star, e_star1, e_star2, e_star3, e_lst, e_lst1, e_tup, e_tup1, e_call, e_call1, e_slot, e_slot1, e_sb, e_sb0, e_sb1, e_sb2, e_sb3, e_bs, e_bs1, e_bs2, e_lenV, e_lenV1, e_un, e_un1, e_def, e_def1, e_def2, e_def3, e_fix0, e_fix1, e_fix2, e_def4, e_def0, e_def01, e_jNil, e_jVal, e_jVal1, e_j2, e_jIo, e_jIo1, e_itD0, e_itD1, e_itD2, e_itD3, e_itJ0, e_itJ1, e_itJ2, e_itP0, e_itP1, e_itP2, e_setMany0, e_setMany1, e_nodup0, e_nodup1, e_noPart, e_part, e_part1, e_slice, e_slice1, e_slice2, e_slice3, e_lstRg, e_lstRg1, e_lstRg2, e_iSeq, e_iSeq1, e_iSeq2, e_iEn, e_iEn1, e_iEn2, e_iR1, e_iR11, e_iR2, e_iR21, e_yes, e_lc, e_lc1, e_lc2, e_wipe0, e_wipe1, e_back0, e_back1, e_back2, e_noneOwn0, e_noneOwn1, e_noneOwn2, e_noneOwn3, e_noneOwn4, e_name, e_set, e_tNil, e_tCons, e_tCons1, e_tTup, e_seq, e_seq1, e_seq2, e_seq3, e_seq4, e_seq5, e_next, e_break, e_cont, e_expr, e_expr1, e_ret, e_ret1, e_sIf, e_sIf1, e_sIf2, e_asg, e_asg1, e_asg2, e_aug, e_aug0, e_aug1, e_aug2, e_aug3, e_par, e_par1, e_par2, e_app, e_app0, e_app1, e_app2, e_setIx, e_setIx0, e_setIx1, e_setIx2, e_setIx3, e_setIx4, e_match, e_match1, e_mCase, e_mAny, e_raise, e_for, e_body, e_body1, e_body2, e_body3, e_body4, e_body5, e_outs0, e_outs1, e_outs2, e_start0, e_start1, e_addI, e_addL, e_addI2, e_sub, e_cmp, e_eqI, e_neI, e_eqB, e_isN0, e_isN1, e_isN2, e_isN3, e_notN0, e_notN1, e_notN2, e_notN3, e_int, e_intB, e_max, e_min, e_neg, e_bits, e_lenL, e_lenT, e_lenS, e_ixL, e_ixT, e_ixS, e_at0, e_at1, e_at2, e_map, e_lstOf, e_lstOfS, e_seqOf, e_seqOfT, e_seqOfS, e_isiIB, e_isiII, e_isiTT, e_isiLL]; rfl, by simp [ce_sums_of_1, e_tUnl, e_ext, e_ext0, e_ext1, e_ext2, e_dix, e_dix1, e_dix2, e_look, e_rev, e_rev1, e_lr1, e_lr11, e_isE1, e_isE2, e_isE3, e_isE4, e_isE5, e_isE6, e_try, e_try1, e_try2, e_eqAS, e_neAS, e_eqAI, e_neAI, e_bind_ok, e_bind_exc, e_bind_stk, e_var, e_var1, e_var2, e_move, e_move1, e_move2, e_C, e_fin1, e_bin, e_bin1, e_bin2, e_chain, e_chain1, e_chain2, e_chain3, e_chain4, e_chain5, e_if, e_if1, e_if2, e_tv, e_tv1, e_notT, e_notT1, e_andT, e_andT1, e_andT2, e_orT, e_orT1, e_orT2, e_andV, e_andV1, e_andV2, e_orV, e_orV1, e_orV2, e_notV, e_notV1, e_aNil, e_aCons, e_aCons1, e_aCons2, e_star, e_star1, e_star2, e_star3, e_lst, e_lst1, e_tup, e_tup1, e_call, e_call1, e_slot, e_slot1, e_sb, e_sb0, e_sb1, e_sb2, e_sb3, e_bs, e_bs1, e_bs2, e_lenV, e_lenV1, e_un, e_un1, e_def, e_def1, e_def2, e_def3, e_fix0, e_fix1, e_fix2, e_def4, e_def0, e_def01, e_jNil, e_jVal, e_jVal1, e_j2, e_jIo, e_jIo1, e_itD0, e_itD1, e_itD2, e_itD3, e_itJ0, e_itJ1, e_itJ2, e_itP0, e_itP1, e_itP2, e_setMany0, e_setMany1, e_nodup0, e_nodup1, e_noPart, e_part, e_part1, e_slice, e_slice1, e_slice2, e_slice3, e_lstRg, e_lstRg1, e_lstRg2, e_iSeq, e_iSeq1, e_iSeq2, e_iEn, e_iEn1, e_iEn2, e_iR1, e_iR11, e_iR2, e_iR21, e_yes, e_lc, e_lc1, e_lc2, e_wipe0, e_wipe1, e_back0, e_back1, e_back2, e_noneOwn0, e_noneOwn1, e_noneOwn2, e_noneOwn3, e_noneOwn4, e_name, e_set, e_tNil, e_tCons, e_tCons1, e_tTup, e_seq, e_seq1, e_seq2, e_seq3, e_seq4, e_seq5, e_next, e_break, e_cont, e_expr, e_expr1, e_ret, e_ret1, e_sIf, e_sIf1, e_sIf2, e_asg, e_asg1, e_asg2, e_aug, e_aug0, e_aug1, e_aug2, e_aug3, e_par, e_par1, e_par2, e_app, e_app0, e_app1, e_app2, e_setIx, e_setIx0, e_setIx1, e_setIx2, e_setIx3, e_setIx4, e_match, e_match1, e_mCase, e_mAny, e_raise, e_for, e_body, e_body1, e_body2, e_body3, e_body4, e_body5, e_outs0, e_outs1, e_outs2, e_start0, e_start1, e_addI, e_addL, e_addI2, e_sub, e_cmp, e_eqI, e_neI, e_eqB, e_isN0, e_isN1, e_isN2, e_isN3, e_notN0, e_notN1, e_notN2, e_notN3, e_int, e_intB, e_max, e_min, e_neg, e_bits, e_lenL, e_lenT, e_lenS, e_ixL, e_ixT, e_ixS, e_at0, e_at1, e_at2, e_map, e_lstOf, e_lstOfS, e_seqOf, e_seqOfT, e_seqOfS, e_isiIB, e_isiII, e_isiTT, e_isiLL, e5], by simp [e_tUnl, e_ext, e_ext0, e_ext1, e_ext2, e_dix, e_dix1, e_dix2, e_look, e_rev, e_rev1, e_lr1, e_lr11, e_isE1, e_isE2, e_isE3, e_isE4, e_isE5, e_isE6, e_try, e_try1, e_try2, e_eqAS, e_neAS, e_eqAI, e_neAI, e_bind_ok, e_bind_exc, e_bind_stk, e_var, e_var1, e_var2, e_move, e_move1, e_move2, e_C, e_fin1, e_bin, e_bin1, e_bin2, e_chain, e_chain1, e_chain2, e_chain3, e_chain4, e_chain5, e_if, e_if1, e_if2, e_tv, e_tv1, e_notT, e_notT1, e_andT, e_andT1, e_andT2, e_orT, e_orT1, e_orT2, e_andV, e_andV1, e_andV2, e_orV, e_orV1, e_orV2, e_notV, e_notV1, e_aNil, e_aCons, e_aCons1, e_aCons2, e_star, e_star1, e_star2, e_star3, e_lst, e_lst1, e_tup, e_tup1, e_call, e_call1, e_slot, e_slot1, e_sb, e_sb0, e_sb1, e_sb2, e_sb3, e_bs, e_bs1, e_bs2, e_lenV, e_lenV1, e_un, e_un1, e_def, e_def1, e_def2, e_def3, e_fix0, e_fix1, e_fix2, e_def4, e_def0, e_def01, e_jNil, e_jVal, e_jVal1, e_j2, e_jIo, e_jIo1, e_itD0, e_itD1, e_itD2, e_itD3, e_itJ0, e_itJ1, e_itJ2, e_itP0, e_itP1, e_itP2, e_setMany0, e_setMany1, e_nodup0, e_nodup1, e_noPart, e_part, e_part1, e_slice, e_slice1, e_slice2, e_slice3, e_lstRg, e_lstRg1, e_lstRg2, e_iSeq, e_iSeq1, e_iSeq2, e_iEn, e_iEn1, e_iEn2, e_iR1, e_iR11, e_iR2, e_iR21, e_yes, e_lc, e_lc1, e_lc2, e_wipe0, e_wipe1, e_back0, e_back1, e_back2, e_noneOwn0, e_noneOwn1, e_noneOwn2, e_noneOwn3, e_noneOwn4, e_name, e_set, e_tNil, e_tCons, e_tCons1, e_tTup, e_seq, e_seq1, e_seq2, e_seq3, e_seq4, e_seq5, e_next, e_break, e_cont, e_expr, e_expr1, e_ret, e_ret1, e_sIf, e_sIf1, e_sIf2, e_asg, e_asg1, e_asg2, e_aug, e_aug0, e_aug1, e_aug2, e_aug3, e_par, e_par1, e_par2, e_app, e_app0, e_app1, e_app2, e_setIx, e_setIx0, e_setIx1, e_setIx2, e_setIx3, e_setIx4, e_match, e_match1, e_mCase, e_mAny, e_raise, e_for, e_body, e_body1, e_body2, e_body3, e_body4, e_body5, e_outs0, e_outs1, e_outs2, e_start0, e_start1, e_addI, e_addL, e_addI2, e_sub, e_cmp, e_eqI, e_neI, e_eqB, e_isN0, e_isN1, e_isN2, e_isN3, e_notN0, e_notN1, e_notN2, e_notN3, e_int, e_intB, e_max, e_min, e_neg, e_bits, e_lenL, e_lenT, e_lenS, e_ixL, e_ixT, e_ixS, e_at0, e_at1, e_at2, e_map, e_lstOf, e_lstOfS, e_seqOf, e_seqOfT, e_seqOfS, e_isiIB, e_isiII, e_isiTT, e_isiLL]⟩)
          have w1 : ((m + 1 - T + 1 : Nat) : Int) = ((m + 1 + 1 : Nat) : Int) - (T : Int) := by omega
          have w2 : ((lf - T : Nat) : Int) = (lf : Int) - (T : Int) := by omega
          have w3 : ((nm + (2 ^ T - 1) : Nat) : Int) = (nm : Int) + (2 ^ T - 1) := by omega
          rw [w1, w2, w3, s4]
          generalize wsD T (fun i => (((2 ^ (m + 1 + 1 - T) - 1) * 2 ^ (T - 1 - i) : Nat) : Int)) = WS at *
          generalize ((m + 1 + 1 : Nat) : Int) = z at *
          cases b4 <;> simp [wb_sums_of_1, e_tUnl, e_ext, e_ext0, e_ext1, e_ext2, e_dix, e_dix1, e_dix2, e_look, e_rev, e_rev1, e_lr1, e_lr11, e_isE1, e_isE2, e_isE3, e_isE4, e_isE5, e_isE6, e_try, e_try1, e_try2, e_eqAS, e_neAS, e_eqAI, e_neAI, e_bind_ok, e_bind_exc, e_bind_stk, e_var, e_var1, e_var2, e_move, e_move1, e_move2, e_C, e_fin1, e_bin, e_bin1, e_bin2, e_chain, e_chain1, e_chain2, e_chain3, e_chain4, e_chain5, e_if, e_if1, e_if2, e_tv, e_tv1, e_notT, e_notT1, e_andT, e_andT1, e_andT2, e_orT, e_orT1, e_orT2, e_andV, e_andV1, e_andV2, e_orV, e_orV1, e_orV2, e_notV, e_notV1, e_aNil, e_aCons, e_aCons1, e_aCons2, e_star, e_star1, e_star2, e_star3, e_lst, e_lst1, e_tup, e_tup1, e_call, e_call1, e_slot, e_slot1, e_sb, e_sb0, e_sb1, e_sb2, e_sb3, e_bs, e_bs1, e_bs2, e_lenV, e_lenV1, e_un, e_un1, e_def, e_def1, e_def2, e_def3, e_fix0, e_fix1, e_fix2, e_def4, e_def0, e_def01, e_jNil, e_jVal, e_jVal1, e_j2, e_jIo, e_jIo1, e_itD0, e_itD1, e_itD2, e_itD3, e_itJ0, e_itJ1, e_itJ2, e_itP0, e_itP1, e_itP2, e_setMany0, e_setMany1, e_nodup0, e_nodup1, e_noPart, e_part, e_part1, e_slice, e_slice1, e_slice2, e_slice3, e_lstRg, e_lstRg1, e_lstRg2, e_iSeq, e_iSeq1, e_iSeq2, e_iEn, e_iEn1, e_iEn2, e_iR1, e_iR11, e_iR2, e_iR21, e_yes, e_lc, e_lc1, e_lc2, e_wipe0, e_wipe1, e_back0, e_back1, e_back2, e_noneOwn0, e_noneOwn1, e_noneOwn2, e_noneOwn3, e_noneOwn4, e_name, e_set, e_tNil, e_tCons, e_tCons1, e_tTup, e_seq, e_seq1, e_seq2, e_seq3, e_seq4, e_seq5, e_next, e_break, e_cont, e_expr, e_expr1, e_ret, e_ret1, e_sIf, e_sIf1, e_sIf2, e_asg, e_asg1, e_asg2, e_aug, e_aug0, e_aug1, e_aug2, e_aug3, e_par, e_par1, e_par2, e_app, e_app0, e_app1, e_app2, e_setIx, e_setIx0, e_setIx1, e_setIx2, e_setIx3, e_setIx4, e_match, e_match1, e_mCase, e_mAny, e_raise, e_for, e_body, e_body1, e_body2, e_body3, e_body4, e_body5, e_outs0, e_outs1, e_outs2, e_start0, e_start1, e_addI, e_addL, e_addI2, e_sub, e_cmp, e_eqI, e_neI, e_eqB, e_isN0, e_isN1, e_isN2, e_isN3, e_notN0, e_notN1, e_notN2, e_notN3, e_int, e_intB, e_max, e_min, e_neg, e_bits, e_lenL, e_lenT, e_lenS, e_ixL, e_ixT, e_ixS, e_at0, e_at1, e_at2, e_map, e_lstOf, e_lstOfS, e_seqOf, e_seqOfT, e_seqOfS, e_isiIB, e_isiII, e_isiTT, e_isiLL, cl', c1, s1, s2, r1, ln, e3, l1, l3, l5, lq]
        · refine ⟨lf - T, _, _, _, _, true, rfl, by omega, by omega, ?_, ?_, ?_⟩
          · rw [num_b hc (by omega) (by omega)] at q3
            rw [hT] at q3
            rw [show m + 1 - T + 1 = m + 1 + 1 - T by omega]
            omega
          · rw [List.length_append, wsD_len]
            omega
          · rw [← q5, List.append_assoc]
            congr 1
            conv => rhs; rw [show lf = T + (lf - T) by omega]
            rw [wsD_app]
            rw [show T + (lf - T) = lf by omega]
            congr 1
            · exact wsD_congr _ fun i hi => by unfold wz; rw [ws_b1 hc (by omega) (by omega) (by omega), hT]
            · refine wsD_congr _ fun i hi => ?_
              unfold wz
              have z := ws_b2 (k := k) hc (h := m + 1 + 1) (d := lf) (i := T + i) (by omega) (by omega) (by omega)
              rw [hT, show T + i - T = i by omega, show m + 1 + 1 - T = m + 1 - T + 1 by omega] at z
              rw [z]
theorem sums_k (k : Kd) (h d : Nat) (hd : d < h) (hh : h ≤ 100) :
    m_sums_of [.str (kn k), .int h, .int d] = .ok (.tuple [.int (num k h d : Nat), .list (wsD d (wz k h d))], false) [] := by
  by_cases hc : isCut k = true
  · exact sums_cut k hc h d hd hh
  · have hc : isCut k = false := by simpa using hc
    have c := cutIn k
    rw [hc] at c
    simp [m_sums_of, b_sums_of, e_tUnl, e_ext, e_ext0, e_ext1, e_ext2, e_dix, e_dix1, e_dix2, e_look, e_rev, e_rev1, e_lr1, e_lr11, e_isE1, e_isE2, e_isE3, e_isE4, e_isE5, e_isE6, e_try, e_try1, e_try2, e_eqAS, e_neAS, e_eqAI, e_neAI, e_bind_ok, e_bind_exc, e_bind_stk, e_var, e_var1, e_var2, e_move, e_move1, e_move2, e_C, e_fin1, e_bin, e_bin1, e_bin2, e_chain, e_chain1, e_chain2, e_chain3, e_chain4, e_chain5, e_if, e_if1, e_if2, e_tv, e_tv1, e_notT, e_notT1, e_andT, e_andT1, e_andT2, e_orT, e_orT1, e_orT2, e_andV, e_andV1, e_andV2, e_orV, e_orV1, e_orV2, e_notV, e_notV1, e_aNil, e_aCons, e_aCons1, e_aCons2, e_star, e_star1, e_star2, e_star3, e_lst, e_lst1, e_tup, e_tup1, e_call, e_call1, e_slot, e_slot1, e_sb, e_sb0, e_sb1, e_sb2, e_sb3, e_bs, e_bs1, e_bs2, e_lenV, e_lenV1, e_un, e_un1, e_def, e_def1, e_def2, e_def3, e_fix0, e_fix1, e_fix2, e_def4, e_def0, e_def01, e_jNil, e_jVal, e_jVal1, e_j2, e_jIo, e_jIo1, e_itD0, e_itD1, e_itD2, e_itD3, e_itJ0, e_itJ1, e_itJ2, e_itP0, e_itP1, e_itP2, e_setMany0, e_setMany1, e_nodup0, e_nodup1, e_noPart, e_part, e_part1, e_slice, e_slice1, e_slice2, e_slice3, e_lstRg, e_lstRg1, e_lstRg2, e_iSeq, e_iSeq1, e_iSeq2, e_iEn, e_iEn1, e_iEn2, e_iR1, e_iR11, e_iR2, e_iR21, e_yes, e_lc, e_lc1, e_lc2, e_wipe0, e_wipe1, e_back0, e_back1, e_back2, e_noneOwn0, e_noneOwn1, e_noneOwn2, e_noneOwn3, e_noneOwn4, e_name, e_set, e_tNil, e_tCons, e_tCons1, e_tTup, e_seq, e_seq1, e_seq2, e_seq3, e_seq4, e_seq5, e_next, e_break, e_cont, e_expr, e_expr1, e_ret, e_ret1, e_sIf, e_sIf1, e_sIf2, e_asg, e_asg1, e_asg2, e_aug, e_aug0, e_aug1, e_aug2, e_aug3, e_par, e_par1, e_par2, e_app, e_app0, e_app1, e_app2, e_setIx, e_setIx0, e_setIx1, e_setIx2, e_setIx3, e_setIx4, e_match, e_match1, e_mCase, e_mAny, e_raise, e_for, e_body, e_body1, e_body2, e_body3, e_body4, e_body5, e_outs0, e_outs1, e_outs2, e_start0, e_start1, e_addI, e_addL, e_addI2, e_sub, e_cmp, e_eqI, e_neI, e_eqB, e_isN0, e_isN1, e_isN2, e_isN3, e_notN0, e_notN1, e_notN2, e_notN3, e_int, e_intB, e_max, e_min, e_neg, e_bits, e_lenL, e_lenT, e_lenS, e_ixL, e_ixT, e_ixS, e_at0, e_at1, e_at2, e_map, e_lstOf, e_lstOfS, e_seqOf, e_seqOfT, e_seqOfS, e_isiIB, e_isiII, e_isiTT, e_isiLL, c, plain_k k hc h d hd hh]
theorem spot_k (k : Kd) (h d n : Nat) (hd : d < h) (hh : h ≤ 100) : m_spot_of [.str (kn k), .int h, nd d n] = .ok (.int (sp k h d n : Nat), false) [] := by
  rw [spot_gen (kn k) h d n _ _ (sums_k k h d hd hh)]
  unfold sp wz
  rw [psum_N, Int.natCast_add]
end SM
namespace SM
open PySem PySem.Spec DL
open PyProof.Rows hiding St
theorem req_kind (k : Kd) : m_require_kind [.str (kn k)] = .ok (.none, false) [] := by cases k <;> kernel_rfl
end SM
namespace SM
open PySem PySem.Spec DL
open PyProof.Rows hiding St
theorem req_tree (q : Kd) (h : Nat) (h0 : 1 ≤ h) (hh : h ≤ 100) : m_require_tree [.str (kn q), .int h] = .ok (.none, false) [] := by
  simp [m_require_tree, b_require_tree, e_tUnl, e_ext, e_ext0, e_ext1, e_ext2, e_dix, e_dix1, e_dix2, e_look, e_rev, e_rev1, e_lr1, e_lr11, e_isE1, e_isE2, e_isE3, e_isE4, e_isE5, e_isE6, e_try, e_try1, e_try2, e_eqAS, e_neAS, e_eqAI, e_neAI, e_bind_ok, e_bind_exc, e_bind_stk, e_var, e_var1, e_var2, e_move, e_move1, e_move2, e_C, e_fin1, e_bin, e_bin1, e_bin2, e_chain, e_chain1, e_chain2, e_chain3, e_chain4, e_chain5, e_if, e_if1, e_if2, e_tv, e_tv1, e_notT, e_notT1, e_andT, e_andT1, e_andT2, e_orT, e_orT1, e_orT2, e_andV, e_andV1, e_andV2, e_orV, e_orV1, e_orV2, e_notV, e_notV1, e_aNil, e_aCons, e_aCons1, e_aCons2, e_star, e_star1, e_star2, e_star3, e_lst, e_lst1, e_tup, e_tup1, e_call, e_call1, e_slot, e_slot1, e_sb, e_sb0, e_sb1, e_sb2, e_sb3, e_bs, e_bs1, e_bs2, e_lenV, e_lenV1, e_un, e_un1, e_def, e_def1, e_def2, e_def3, e_fix0, e_fix1, e_fix2, e_def4, e_def0, e_def01, e_jNil, e_jVal, e_jVal1, e_j2, e_jIo, e_jIo1, e_itD0, e_itD1, e_itD2, e_itD3, e_itJ0, e_itJ1, e_itJ2, e_itP0, e_itP1, e_itP2, e_setMany0, e_setMany1, e_nodup0, e_nodup1, e_noPart, e_part, e_part1, e_slice, e_slice1, e_slice2, e_slice3, e_lstRg, e_lstRg1, e_lstRg2, e_iSeq, e_iSeq1, e_iSeq2, e_iEn, e_iEn1, e_iEn2, e_iR1, e_iR11, e_iR2, e_iR21, e_yes, e_lc, e_lc1, e_lc2, e_wipe0, e_wipe1, e_back0, e_back1, e_back2, e_noneOwn0, e_noneOwn1, e_noneOwn2, e_noneOwn3, e_noneOwn4, e_name, e_set, e_tNil, e_tCons, e_tCons1, e_tTup, e_seq, e_seq1, e_seq2, e_seq3, e_seq4, e_seq5, e_next, e_break, e_cont, e_expr, e_expr1, e_ret, e_ret1, e_sIf, e_sIf1, e_sIf2, e_asg, e_asg1, e_asg2, e_aug, e_aug0, e_aug1, e_aug2, e_aug3, e_par, e_par1, e_par2, e_app, e_app0, e_app1, e_app2, e_setIx, e_setIx0, e_setIx1, e_setIx2, e_setIx3, e_setIx4, e_match, e_match1, e_mCase, e_mAny, e_raise, e_for, e_body, e_body1, e_body2, e_body3, e_body4, e_body5, e_outs0, e_outs1, e_outs2, e_start0, e_start1, e_addI, e_addL, e_addI2, e_sub, e_cmp, e_eqI, e_neI, e_eqB, e_isN0, e_isN1, e_isN2, e_isN3, e_notN0, e_notN1, e_notN2, e_notN3, e_int, e_intB, e_max, e_min, e_neg, e_bits, e_lenL, e_lenT, e_lenS, e_ixL, e_ixT, e_ixS, e_at0, e_at1, e_at2, e_map, e_lstOf, e_lstOfS, e_seqOf, e_seqOfT, e_seqOfS, e_isiIB, e_isiII, e_isiTT, e_isiLL, req_kind q, req_height h h0 hh]
end SM
namespace SM
open PySem PySem.Spec DL
open PyProof.Rows hiding St
theorem there_gen (k : Str) (h d : Nat) (place : Int) (num : Nat → Int) (ws : Nat → Nat → Int) (hh : h ≤ 100) (hd : d < h) (hs : ∀ e, e < h → m_sums_of [.str k, .int h, .int e] = .ok (.tuple [.int (num e), .list (wsD e (ws e))], false) [])
    (h1 : ∀ e, e < d → (grd (ws e) (place - num e) e).1 ≠ 0) (h2 : (grd (ws d) (place - num d) d).1 = 0) :
    m_node_there [.str k, .int h, .int place] = .ok (.tuple [.int d, .int (grd (ws d) (place - num d) d).2], false) [] := by
  have inner : ∀ (e : Nat) (x8 : Option (Bool × D)), e < h → ∃ x8', forD (gtName [] 8) lb_node_there_1 (wsD e (ws e))
      [some (false, .str k), some (false, .int h), some (false, .int place), some (false, .int e), some (false, .int (num e)), some (false, .list (wsD e (ws e))), some (false, .int (place - num e)), some (false, .int 0), x8] =
      .ok .nx [some (false, .str k), some (false, .int h), some (false, .int place), some (false, .int e), some (false, .int (num e)), some (false, .list (wsD e (ws e))), some (false, .int (grd (ws e) (place - num e) e).1), some (false, .int (grd (ws e) (place - num e) e).2), x8'] := by
    intro e x8 he
    obtain ⟨δ', q1, x8', q2⟩ := forD_inv (tgt := gtName [] 8) (body := lb_node_there_1) (ds := wsD e (ws e))
      (δ := [some (false, .str k), some (false, .int h), some (false, .int place), some (false, .int e), some (false, .int (num e)), some (false, .list (wsD e (ws e))), some (false, .int (place - num e)), some (false, .int 0), x8])
      (fun j δ => ∃ x8', δ = [some (false, .str k), some (false, .int h), some (false, .int place), some (false, .int e), some (false, .int (num e)), some (false, .list (wsD e (ws e))), some (false, .int (grd (ws e) (place - num e) j).1), some (false, .int (grd (ws e) (place - num e) j).2), x8']) ⟨x8, by simp [grd]⟩ (by
      rintro j x δ hx ⟨x8', rfl⟩
      obtain ⟨hj, rfl⟩ := wsD_get hx
      have e1 : dShl (.int (grd (ws e) (place - num e) j).2) (.int 1) = some (.int (2 * (grd (ws e) (place - num e) j).2), false) := by
        rw [dShl_ok j (grd_nat _ _ _) (by omega) (by omega) (by omega)]
        simp [Int.mul_comm]
      by_cases c : ws e j ≤ (grd (ws e) (place - num e) j).1
      · refine ⟨_, by simp [e_tUnl, e_ext, e_ext0, e_ext1, e_ext2, e_dix, e_dix1, e_dix2, e_look, e_rev, e_rev1, e_lr1, e_lr11, e_isE1, e_isE2, e_isE3, e_isE4, e_isE5, e_isE6, e_try, e_try1, e_try2, e_eqAS, e_neAS, e_eqAI, e_neAI, e_bind_ok, e_bind_exc, e_bind_stk, e_var, e_var1, e_var2, e_move, e_move1, e_move2, e_C, e_fin1, e_bin, e_bin1, e_bin2, e_chain, e_chain1, e_chain2, e_chain3, e_chain4, e_chain5, e_if, e_if1, e_if2, e_tv, e_tv1, e_notT, e_notT1, e_andT, e_andT1, e_andT2, e_orT, e_orT1, e_orT2, e_andV, e_andV1, e_andV2, e_orV, e_orV1, e_orV2, e_notV, e_notV1, e_aNil, e_aCons, e_aCons1, e_aCons2, e_star, e_star1, e_star2, e_star3, e_lst, e_lst1, e_tup, e_tup1, e_call, e_call1, e_slot, e_slot1, e_sb, e_sb0, e_sb1, e_sb2, e_sb3, e_bs, e_bs1, e_bs2, e_lenV, e_lenV1, e_un, e_un1, e_def, e_def1, e_def2, e_def3, e_fix0, e_fix1, e_fix2, e_def4, e_def0, e_def01, e_jNil, e_jVal, e_jVal1, e_j2, e_jIo, e_jIo1, e_itD0, e_itD1, e_itD2, e_itD3, e_itJ0, e_itJ1, e_itJ2, e_itP0, e_itP1, e_itP2, e_setMany0, e_setMany1, e_nodup0, e_nodup1, e_noPart, e_part, e_part1, e_slice, e_slice1, e_slice2, e_slice3, e_lstRg, e_lstRg1, e_lstRg2, e_iSeq, e_iSeq1, e_iSeq2, e_iEn, e_iEn1, e_iEn2, e_iR1, e_iR11, e_iR2, e_iR21, e_yes, e_lc, e_lc1, e_lc2, e_wipe0, e_wipe1, e_back0, e_back1, e_back2, e_noneOwn0, e_noneOwn1, e_noneOwn2, e_noneOwn3, e_noneOwn4, e_name, e_set, e_tNil, e_tCons, e_tCons1, e_tTup, e_seq, e_seq1, e_seq2, e_seq3, e_seq4, e_seq5, e_next, e_break, e_cont, e_expr, e_expr1, e_ret, e_ret1, e_sIf, e_sIf1, e_sIf2, e_asg, e_asg1, e_asg2, e_aug, e_aug0, e_aug1, e_aug2, e_aug3, e_par, e_par1, e_par2, e_app, e_app0, e_app1, e_app2, e_setIx, e_setIx0, e_setIx1, e_setIx2, e_setIx3, e_setIx4, e_match, e_match1, e_mCase, e_mAny, e_raise, e_for, e_body, e_body1, e_body2, e_body3, e_body4, e_body5, e_outs0, e_outs1, e_outs2, e_start0, e_start1, e_addI, e_addL, e_addI2, e_sub, e_cmp, e_eqI, e_neI, e_eqB, e_isN0, e_isN1, e_isN2, e_isN3, e_notN0, e_notN1, e_notN2, e_notN3, e_int, e_intB, e_max, e_min, e_neg, e_bits, e_lenL, e_lenT, e_lenS, e_ixL, e_ixT, e_ixS, e_at0, e_at1, e_at2, e_map, e_lstOf, e_lstOfS, e_seqOf, e_seqOfT, e_seqOfS, e_isiIB, e_isiII, e_isiTT, e_isiLL]; rfl, _, by simp [lb_node_there_1, e_tUnl, e_ext, e_ext0, e_ext1, e_ext2, e_dix, e_dix1, e_dix2, e_look, e_rev, e_rev1, e_lr1, e_lr11, e_isE1, e_isE2, e_isE3, e_isE4, e_isE5, e_isE6, e_try, e_try1, e_try2, e_eqAS, e_neAS, e_eqAI, e_neAI, e_bind_ok, e_bind_exc, e_bind_stk, e_var, e_var1, e_var2, e_move, e_move1, e_move2, e_C, e_fin1, e_bin, e_bin1, e_bin2, e_chain, e_chain1, e_chain2, e_chain3, e_chain4, e_chain5, e_if, e_if1, e_if2, e_tv, e_tv1, e_notT, e_notT1, e_andT, e_andT1, e_andT2, e_orT, e_orT1, e_orT2, e_andV, e_andV1, e_andV2, e_orV, e_orV1, e_orV2, e_notV, e_notV1, e_aNil, e_aCons, e_aCons1, e_aCons2, e_star, e_star1, e_star2, e_star3, e_lst, e_lst1, e_tup, e_tup1, e_call, e_call1, e_slot, e_slot1, e_sb, e_sb0, e_sb1, e_sb2, e_sb3, e_bs, e_bs1, e_bs2, e_lenV, e_lenV1, e_un, e_un1, e_def, e_def1, e_def2, e_def3, e_fix0, e_fix1, e_fix2, e_def4, e_def0, e_def01, e_jNil, e_jVal, e_jVal1, e_j2, e_jIo, e_jIo1, e_itD0, e_itD1, e_itD2, e_itD3, e_itJ0, e_itJ1, e_itJ2, e_itP0, e_itP1, e_itP2, e_setMany0, e_setMany1, e_nodup0, e_nodup1, e_noPart, e_part, e_part1, e_slice, e_slice1, e_slice2, e_slice3, e_lstRg, e_lstRg1, e_lstRg2, e_iSeq, e_iSeq1, e_iSeq2, e_iEn, e_iEn1, e_iEn2, e_iR1, e_iR11, e_iR2, e_iR21, e_yes, e_lc, e_lc1, e_lc2, e_wipe0, e_wipe1, e_back0, e_back1, e_back2, e_noneOwn0, e_noneOwn1, e_noneOwn2, e_noneOwn3, e_noneOwn4, e_name, e_set, e_tNil, e_tCons, e_tCons1, e_tTup, e_seq, e_seq1, e_seq2, e_seq3, e_seq4, e_seq5, e_next, e_break, e_cont, e_expr, e_expr1, e_ret, e_ret1, e_sIf, e_sIf1, e_sIf2, e_asg, e_asg1, e_asg2, e_aug, e_aug0, e_aug1, e_aug2, e_aug3, e_par, e_par1, e_par2, e_app, e_app0, e_app1, e_app2, e_setIx, e_setIx0, e_setIx1, e_setIx2, e_setIx3, e_setIx4, e_match, e_match1, e_mCase, e_mAny, e_raise, e_for, e_body, e_body1, e_body2, e_body3, e_body4, e_body5, e_outs0, e_outs1, e_outs2, e_start0, e_start1, e_addI, e_addL, e_addI2, e_sub, e_cmp, e_eqI, e_neI, e_eqB, e_isN0, e_isN1, e_isN2, e_isN3, e_notN0, e_notN1, e_notN2, e_notN3, e_int, e_intB, e_max, e_min, e_neg, e_bits, e_lenL, e_lenT, e_lenS, e_ixL, e_ixT, e_ixS, e_at0, e_at1, e_at2, e_map, e_lstOf, e_lstOfS, e_seqOf, e_seqOfT, e_seqOfS, e_isiIB, e_isiII, e_isiTT, e_isiLL, e1, c]; rfl, ?_⟩
        exact ⟨some (false, .int (ws e j)), by simp [grd, c]⟩
      · refine ⟨_, by simp [e_tUnl, e_ext, e_ext0, e_ext1, e_ext2, e_dix, e_dix1, e_dix2, e_look, e_rev, e_rev1, e_lr1, e_lr11, e_isE1, e_isE2, e_isE3, e_isE4, e_isE5, e_isE6, e_try, e_try1, e_try2, e_eqAS, e_neAS, e_eqAI, e_neAI, e_bind_ok, e_bind_exc, e_bind_stk, e_var, e_var1, e_var2, e_move, e_move1, e_move2, e_C, e_fin1, e_bin, e_bin1, e_bin2, e_chain, e_chain1, e_chain2, e_chain3, e_chain4, e_chain5, e_if, e_if1, e_if2, e_tv, e_tv1, e_notT, e_notT1, e_andT, e_andT1, e_andT2, e_orT, e_orT1, e_orT2, e_andV, e_andV1, e_andV2, e_orV, e_orV1, e_orV2, e_notV, e_notV1, e_aNil, e_aCons, e_aCons1, e_aCons2, e_star, e_star1, e_star2, e_star3, e_lst, e_lst1, e_tup, e_tup1, e_call, e_call1, e_slot, e_slot1, e_sb, e_sb0, e_sb1, e_sb2, e_sb3, e_bs, e_bs1, e_bs2, e_lenV, e_lenV1, e_un, e_un1, e_def, e_def1, e_def2, e_def3, e_fix0, e_fix1, e_fix2, e_def4, e_def0, e_def01, e_jNil, e_jVal, e_jVal1, e_j2, e_jIo, e_jIo1, e_itD0, e_itD1, e_itD2, e_itD3, e_itJ0, e_itJ1, e_itJ2, e_itP0, e_itP1, e_itP2, e_setMany0, e_setMany1, e_nodup0, e_nodup1, e_noPart, e_part, e_part1, e_slice, e_slice1, e_slice2, e_slice3, e_lstRg, e_lstRg1, e_lstRg2, e_iSeq, e_iSeq1, e_iSeq2, e_iEn, e_iEn1, e_iEn2, e_iR1, e_iR11, e_iR2, e_iR21, e_yes, e_lc, e_lc1, e_lc2, e_wipe0, e_wipe1, e_back0, e_back1, e_back2, e_noneOwn0, e_noneOwn1, e_noneOwn2, e_noneOwn3, e_noneOwn4, e_name, e_set, e_tNil, e_tCons, e_tCons1, e_tTup, e_seq, e_seq1, e_seq2, e_seq3, e_seq4, e_seq5, e_next, e_break, e_cont, e_expr, e_expr1, e_ret, e_ret1, e_sIf, e_sIf1, e_sIf2, e_asg, e_asg1, e_asg2, e_aug, e_aug0, e_aug1, e_aug2, e_aug3, e_par, e_par1, e_par2, e_app, e_app0, e_app1, e_app2, e_setIx, e_setIx0, e_setIx1, e_setIx2, e_setIx3, e_setIx4, e_match, e_match1, e_mCase, e_mAny, e_raise, e_for, e_body, e_body1, e_body2, e_body3, e_body4, e_body5, e_outs0, e_outs1, e_outs2, e_start0, e_start1, e_addI, e_addL, e_addI2, e_sub, e_cmp, e_eqI, e_neI, e_eqB, e_isN0, e_isN1, e_isN2, e_isN3, e_notN0, e_notN1, e_notN2, e_notN3, e_int, e_intB, e_max, e_min, e_neg, e_bits, e_lenL, e_lenT, e_lenS, e_ixL, e_ixT, e_ixS, e_at0, e_at1, e_at2, e_map, e_lstOf, e_lstOfS, e_seqOf, e_seqOfT, e_seqOfS, e_isiIB, e_isiII, e_isiTT, e_isiLL]; rfl, _, by simp [lb_node_there_1, e_tUnl, e_ext, e_ext0, e_ext1, e_ext2, e_dix, e_dix1, e_dix2, e_look, e_rev, e_rev1, e_lr1, e_lr11, e_isE1, e_isE2, e_isE3, e_isE4, e_isE5, e_isE6, e_try, e_try1, e_try2, e_eqAS, e_neAS, e_eqAI, e_neAI, e_bind_ok, e_bind_exc, e_bind_stk, e_var, e_var1, e_var2, e_move, e_move1, e_move2, e_C, e_fin1, e_bin, e_bin1, e_bin2, e_chain, e_chain1, e_chain2, e_chain3, e_chain4, e_chain5, e_if, e_if1, e_if2, e_tv, e_tv1, e_notT, e_notT1, e_andT, e_andT1, e_andT2, e_orT, e_orT1, e_orT2, e_andV, e_andV1, e_andV2, e_orV, e_orV1, e_orV2, e_notV, e_notV1, e_aNil, e_aCons, e_aCons1, e_aCons2, e_star, e_star1, e_star2, e_star3, e_lst, e_lst1, e_tup, e_tup1, e_call, e_call1, e_slot, e_slot1, e_sb, e_sb0, e_sb1, e_sb2, e_sb3, e_bs, e_bs1, e_bs2, e_lenV, e_lenV1, e_un, e_un1, e_def, e_def1, e_def2, e_def3, e_fix0, e_fix1, e_fix2, e_def4, e_def0, e_def01, e_jNil, e_jVal, e_jVal1, e_j2, e_jIo, e_jIo1, e_itD0, e_itD1, e_itD2, e_itD3, e_itJ0, e_itJ1, e_itJ2, e_itP0, e_itP1, e_itP2, e_setMany0, e_setMany1, e_nodup0, e_nodup1, e_noPart, e_part, e_part1, e_slice, e_slice1, e_slice2, e_slice3, e_lstRg, e_lstRg1, e_lstRg2, e_iSeq, e_iSeq1, e_iSeq2, e_iEn, e_iEn1, e_iEn2, e_iR1, e_iR11, e_iR2, e_iR21, e_yes, e_lc, e_lc1, e_lc2, e_wipe0, e_wipe1, e_back0, e_back1, e_back2, e_noneOwn0, e_noneOwn1, e_noneOwn2, e_noneOwn3, e_noneOwn4, e_name, e_set, e_tNil, e_tCons, e_tCons1, e_tTup, e_seq, e_seq1, e_seq2, e_seq3, e_seq4, e_seq5, e_next, e_break, e_cont, e_expr, e_expr1, e_ret, e_ret1, e_sIf, e_sIf1, e_sIf2, e_asg, e_asg1, e_asg2, e_aug, e_aug0, e_aug1, e_aug2, e_aug3, e_par, e_par1, e_par2, e_app, e_app0, e_app1, e_app2, e_setIx, e_setIx0, e_setIx1, e_setIx2, e_setIx3, e_setIx4, e_match, e_match1, e_mCase, e_mAny, e_raise, e_for, e_body, e_body1, e_body2, e_body3, e_body4, e_body5, e_outs0, e_outs1, e_outs2, e_start0, e_start1, e_addI, e_addL, e_addI2, e_sub, e_cmp, e_eqI, e_neI, e_eqB, e_isN0, e_isN1, e_isN2, e_isN3, e_notN0, e_notN1, e_notN2, e_notN3, e_int, e_intB, e_max, e_min, e_neg, e_bits, e_lenL, e_lenT, e_lenS, e_ixL, e_ixT, e_ixS, e_at0, e_at1, e_at2, e_map, e_lstOf, e_lstOfS, e_seqOf, e_seqOfT, e_seqOfS, e_isiIB, e_isiII, e_isiTT, e_isiLL, e1, c]; rfl, ?_⟩
        exact ⟨some (false, .int (ws e j)), by simp [grd, c]⟩)
    rw [wsD_len] at q2
    subst q2
    exact ⟨x8', q1⟩
  have key := forD_end (tgt := gtName [] 3) (body := lb_node_there_2)
    (ds := rgN 0 h) (k := d) (δ := [some (false, .str k), some (false, .int h), some (false, .int place), none, none, none, none, none, none])
    (fun i δ => ∃ x3 x4 x5 x6 x7 x8, δ = [some (false, .str k), some (false, .int h), some (false, .int place), x3, x4, x5, x6, x7, x8])
    (fun r => ∃ δ, r = .ok (.rt (.tuple [.int d, .int (grd (ws d) (place - num d) d).2]) false) δ) (by simpa [rgN] using hd) ⟨none, none, none, none, none, none, rfl⟩
    (by
      rintro i x δ hi hx ⟨x3, x4, x5, x6, x7, x8, rfl⟩
      obtain ⟨hi', rfl⟩ := rgN_get hx
      simp only [Int.zero_add]
      obtain ⟨x8', q⟩ := inner i x8 (by omega)
      have hb : ((grd (ws i) (place - num i) i).1 == 0) = false := by simpa using h1 i hi
      refine ⟨_, by simp [e_tUnl, e_ext, e_ext0, e_ext1, e_ext2, e_dix, e_dix1, e_dix2, e_look, e_rev, e_rev1, e_lr1, e_lr11, e_isE1, e_isE2, e_isE3, e_isE4, e_isE5, e_isE6, e_try, e_try1, e_try2, e_eqAS, e_neAS, e_eqAI, e_neAI, e_bind_ok, e_bind_exc, e_bind_stk, e_var, e_var1, e_var2, e_move, e_move1, e_move2, e_C, e_fin1, e_bin, e_bin1, e_bin2, e_chain, e_chain1, e_chain2, e_chain3, e_chain4, e_chain5, e_if, e_if1, e_if2, e_tv, e_tv1, e_notT, e_notT1, e_andT, e_andT1, e_andT2, e_orT, e_orT1, e_orT2, e_andV, e_andV1, e_andV2, e_orV, e_orV1, e_orV2, e_notV, e_notV1, e_aNil, e_aCons, e_aCons1, e_aCons2, e_star, e_star1, e_star2, e_star3, e_lst, e_lst1, e_tup, e_tup1, e_call, e_call1, e_slot, e_slot1, e_sb, e_sb0, e_sb1, e_sb2, e_sb3, e_bs, e_bs1, e_bs2, e_lenV, e_lenV1, e_un, e_un1, e_def, e_def1, e_def2, e_def3, e_fix0, e_fix1, e_fix2, e_def4, e_def0, e_def01, e_jNil, e_jVal, e_jVal1, e_j2, e_jIo, e_jIo1, e_itD0, e_itD1, e_itD2, e_itD3, e_itJ0, e_itJ1, e_itJ2, e_itP0, e_itP1, e_itP2, e_setMany0, e_setMany1, e_nodup0, e_nodup1, e_noPart, e_part, e_part1, e_slice, e_slice1, e_slice2, e_slice3, e_lstRg, e_lstRg1, e_lstRg2, e_iSeq, e_iSeq1, e_iSeq2, e_iEn, e_iEn1, e_iEn2, e_iR1, e_iR11, e_iR2, e_iR21, e_yes, e_lc, e_lc1, e_lc2, e_wipe0, e_wipe1, e_back0, e_back1, e_back2, e_noneOwn0, e_noneOwn1, e_noneOwn2, e_noneOwn3, e_noneOwn4, e_name, e_set, e_tNil, e_tCons, e_tCons1, e_tTup, e_seq, e_seq1, e_seq2, e_seq3, e_seq4, e_seq5, e_next, e_break, e_cont, e_expr, e_expr1, e_ret, e_ret1, e_sIf, e_sIf1, e_sIf2, e_asg, e_asg1, e_asg2, e_aug, e_aug0, e_aug1, e_aug2, e_aug3, e_par, e_par1, e_par2, e_app, e_app0, e_app1, e_app2, e_setIx, e_setIx0, e_setIx1, e_setIx2, e_setIx3, e_setIx4, e_match, e_match1, e_mCase, e_mAny, e_raise, e_for, e_body, e_body1, e_body2, e_body3, e_body4, e_body5, e_outs0, e_outs1, e_outs2, e_start0, e_start1, e_addI, e_addL, e_addI2, e_sub, e_cmp, e_eqI, e_neI, e_eqB, e_isN0, e_isN1, e_isN2, e_isN3, e_notN0, e_notN1, e_notN2, e_notN3, e_int, e_intB, e_max, e_min, e_neg, e_bits, e_lenL, e_lenT, e_lenS, e_ixL, e_ixT, e_ixS, e_at0, e_at1, e_at2, e_map, e_lstOf, e_lstOfS, e_seqOf, e_seqOfT, e_seqOfS, e_isiIB, e_isiII, e_isiTT, e_isiLL]; rfl, _, by simp [lb_node_there_2, e_tUnl, e_ext, e_ext0, e_ext1, e_ext2, e_dix, e_dix1, e_dix2, e_look, e_rev, e_rev1, e_lr1, e_lr11, e_isE1, e_isE2, e_isE3, e_isE4, e_isE5, e_isE6, e_try, e_try1, e_try2, e_eqAS, e_neAS, e_eqAI, e_neAI, e_bind_ok, e_bind_exc, e_bind_stk, e_var, e_var1, e_var2, e_move, e_move1, e_move2, e_C, e_fin1, e_bin, e_bin1, e_bin2, e_chain, e_chain1, e_chain2, e_chain3, e_chain4, e_chain5, e_if, e_if1, e_if2, e_tv, e_tv1, e_notT, e_notT1, e_andT, e_andT1, e_andT2, e_orT, e_orT1, e_orT2, e_andV, e_andV1, e_andV2, e_orV, e_orV1, e_orV2, e_notV, e_notV1, e_aNil, e_aCons, e_aCons1, e_aCons2, e_star, e_star1, e_star2, e_star3, e_lst, e_lst1, e_tup, e_tup1, e_call, e_call1, e_slot, e_slot1, e_sb, e_sb0, e_sb1, e_sb2, e_sb3, e_bs, e_bs1, e_bs2, e_lenV, e_lenV1, e_un, e_un1, e_def, e_def1, e_def2, e_def3, e_fix0, e_fix1, e_fix2, e_def4, e_def0, e_def01, e_jNil, e_jVal, e_jVal1, e_j2, e_jIo, e_jIo1, e_itD0, e_itD1, e_itD2, e_itD3, e_itJ0, e_itJ1, e_itJ2, e_itP0, e_itP1, e_itP2, e_setMany0, e_setMany1, e_nodup0, e_nodup1, e_noPart, e_part, e_part1, e_slice, e_slice1, e_slice2, e_slice3, e_lstRg, e_lstRg1, e_lstRg2, e_iSeq, e_iSeq1, e_iSeq2, e_iEn, e_iEn1, e_iEn2, e_iR1, e_iR11, e_iR2, e_iR21, e_yes, e_lc, e_lc1, e_lc2, e_wipe0, e_wipe1, e_back0, e_back1, e_back2, e_noneOwn0, e_noneOwn1, e_noneOwn2, e_noneOwn3, e_noneOwn4, e_name, e_set, e_tNil, e_tCons, e_tCons1, e_tTup, e_seq, e_seq1, e_seq2, e_seq3, e_seq4, e_seq5, e_next, e_break, e_cont, e_expr, e_expr1, e_ret, e_ret1, e_sIf, e_sIf1, e_sIf2, e_asg, e_asg1, e_asg2, e_aug, e_aug0, e_aug1, e_aug2, e_aug3, e_par, e_par1, e_par2, e_app, e_app0, e_app1, e_app2, e_setIx, e_setIx0, e_setIx1, e_setIx2, e_setIx3, e_setIx4, e_match, e_match1, e_mCase, e_mAny, e_raise, e_for, e_body, e_body1, e_body2, e_body3, e_body4, e_body5, e_outs0, e_outs1, e_outs2, e_start0, e_start1, e_addI, e_addL, e_addI2, e_sub, e_cmp, e_eqI, e_neI, e_eqB, e_isN0, e_isN1, e_isN2, e_isN3, e_notN0, e_notN1, e_notN2, e_notN3, e_int, e_intB, e_max, e_min, e_neg, e_bits, e_lenL, e_lenT, e_lenS, e_ixL, e_ixT, e_ixS, e_at0, e_at1, e_at2, e_map, e_lstOf, e_lstOfS, e_seqOf, e_seqOfT, e_seqOfS, e_isiIB, e_isiII, e_isiTT, e_isiLL, hs i (by omega), q, hb]; rfl, ?_⟩
      exact ⟨_, _, _, _, _, _, rfl⟩)
    (by
      rintro x δ hx ⟨x3, x4, x5, x6, x7, x8, rfl⟩
      obtain ⟨hi', rfl⟩ := rgN_get hx
      simp only [Int.zero_add]
      obtain ⟨x8', q⟩ := inner d x8 hd
      refine ⟨_, by simp [e_tUnl, e_ext, e_ext0, e_ext1, e_ext2, e_dix, e_dix1, e_dix2, e_look, e_rev, e_rev1, e_lr1, e_lr11, e_isE1, e_isE2, e_isE3, e_isE4, e_isE5, e_isE6, e_try, e_try1, e_try2, e_eqAS, e_neAS, e_eqAI, e_neAI, e_bind_ok, e_bind_exc, e_bind_stk, e_var, e_var1, e_var2, e_move, e_move1, e_move2, e_C, e_fin1, e_bin, e_bin1, e_bin2, e_chain, e_chain1, e_chain2, e_chain3, e_chain4, e_chain5, e_if, e_if1, e_if2, e_tv, e_tv1, e_notT, e_notT1, e_andT, e_andT1, e_andT2, e_orT, e_orT1, e_orT2, e_andV, e_andV1, e_andV2, e_orV, e_orV1, e_orV2, e_notV, e_notV1, e_aNil, e_aCons, e_aCons1, e_aCons2, e_star, e_star1, e_star2, e_star3, e_lst, e_lst1, e_tup, e_tup1, e_call, e_call1, e_slot, e_slot1, e_sb, e_sb0, e_sb1, e_sb2, e_sb3, e_bs, e_bs1, e_bs2, e_lenV, e_lenV1, e_un, e_un1, e_def, e_def1, e_def2, e_def3, e_fix0, e_fix1, e_fix2, e_def4, e_def0, e_def01, e_jNil, e_jVal, e_jVal1, e_j2, e_jIo, e_jIo1, e_itD0, e_itD1, e_itD2, e_itD3, e_itJ0, e_itJ1, e_itJ2, e_itP0, e_itP1, e_itP2, e_setMany0, e_setMany1, e_nodup0, e_nodup1, e_noPart, e_part, e_part1, e_slice, e_slice1, e_slice2, e_slice3, e_lstRg, e_lstRg1, e_lstRg2, e_iSeq, e_iSeq1, e_iSeq2, e_iEn, e_iEn1, e_iEn2, e_iR1, e_iR11, e_iR2, e_iR21, e_yes, e_lc, e_lc1, e_lc2, e_wipe0, e_wipe1, e_back0, e_back1, e_back2, e_noneOwn0, e_noneOwn1, e_noneOwn2, e_noneOwn3, e_noneOwn4, e_name, e_set, e_tNil, e_tCons, e_tCons1, e_tTup, e_seq, e_seq1, e_seq2, e_seq3, e_seq4, e_seq5, e_next, e_break, e_cont, e_expr, e_expr1, e_ret, e_ret1, e_sIf, e_sIf1, e_sIf2, e_asg, e_asg1, e_asg2, e_aug, e_aug0, e_aug1, e_aug2, e_aug3, e_par, e_par1, e_par2, e_app, e_app0, e_app1, e_app2, e_setIx, e_setIx0, e_setIx1, e_setIx2, e_setIx3, e_setIx4, e_match, e_match1, e_mCase, e_mAny, e_raise, e_for, e_body, e_body1, e_body2, e_body3, e_body4, e_body5, e_outs0, e_outs1, e_outs2, e_start0, e_start1, e_addI, e_addL, e_addI2, e_sub, e_cmp, e_eqI, e_neI, e_eqB, e_isN0, e_isN1, e_isN2, e_isN3, e_notN0, e_notN1, e_notN2, e_notN3, e_int, e_intB, e_max, e_min, e_neg, e_bits, e_lenL, e_lenT, e_lenS, e_ixL, e_ixT, e_ixS, e_at0, e_at1, e_at2, e_map, e_lstOf, e_lstOfS, e_seqOf, e_seqOfT, e_seqOfS, e_isiIB, e_isiII, e_isiTT, e_isiLL]; rfl, _, _, _, by simp [lb_node_there_2, e_tUnl, e_ext, e_ext0, e_ext1, e_ext2, e_dix, e_dix1, e_dix2, e_look, e_rev, e_rev1, e_lr1, e_lr11, e_isE1, e_isE2, e_isE3, e_isE4, e_isE5, e_isE6, e_try, e_try1, e_try2, e_eqAS, e_neAS, e_eqAI, e_neAI, e_bind_ok, e_bind_exc, e_bind_stk, e_var, e_var1, e_var2, e_move, e_move1, e_move2, e_C, e_fin1, e_bin, e_bin1, e_bin2, e_chain, e_chain1, e_chain2, e_chain3, e_chain4, e_chain5, e_if, e_if1, e_if2, e_tv, e_tv1, e_notT, e_notT1, e_andT, e_andT1, e_andT2, e_orT, e_orT1, e_orT2, e_andV, e_andV1, e_andV2, e_orV, e_orV1, e_orV2, e_notV, e_notV1, e_aNil, e_aCons, e_aCons1, e_aCons2, e_star, e_star1, e_star2, e_star3, e_lst, e_lst1, e_tup, e_tup1, e_call, e_call1, e_slot, e_slot1, e_sb, e_sb0, e_sb1, e_sb2, e_sb3, e_bs, e_bs1, e_bs2, e_lenV, e_lenV1, e_un, e_un1, e_def, e_def1, e_def2, e_def3, e_fix0, e_fix1, e_fix2, e_def4, e_def0, e_def01, e_jNil, e_jVal, e_jVal1, e_j2, e_jIo, e_jIo1, e_itD0, e_itD1, e_itD2, e_itD3, e_itJ0, e_itJ1, e_itJ2, e_itP0, e_itP1, e_itP2, e_setMany0, e_setMany1, e_nodup0, e_nodup1, e_noPart, e_part, e_part1, e_slice, e_slice1, e_slice2, e_slice3, e_lstRg, e_lstRg1, e_lstRg2, e_iSeq, e_iSeq1, e_iSeq2, e_iEn, e_iEn1, e_iEn2, e_iR1, e_iR11, e_iR2, e_iR21, e_yes, e_lc, e_lc1, e_lc2, e_wipe0, e_wipe1, e_back0, e_back1, e_back2, e_noneOwn0, e_noneOwn1, e_noneOwn2, e_noneOwn3, e_noneOwn4, e_name, e_set, e_tNil, e_tCons, e_tCons1, e_tTup, e_seq, e_seq1, e_seq2, e_seq3, e_seq4, e_seq5, e_next, e_break, e_cont, e_expr, e_expr1, e_ret, e_ret1, e_sIf, e_sIf1, e_sIf2, e_asg, e_asg1, e_asg2, e_aug, e_aug0, e_aug1, e_aug2, e_aug3, e_par, e_par1, e_par2, e_app, e_app0, e_app1, e_app2, e_setIx, e_setIx0, e_setIx1, e_setIx2, e_setIx3, e_setIx4, e_match, e_match1, e_mCase, e_mAny, e_raise, e_for, e_body, e_body1, e_body2, e_body3, e_body4, e_body5, e_outs0, e_outs1, e_outs2, e_start0, e_start1, e_addI, e_addL, e_addI2, e_sub, e_cmp, e_eqI, e_neI, e_eqB, e_isN0, e_isN1, e_isN2, e_isN3, e_notN0, e_notN1, e_notN2, e_notN3, e_int, e_intB, e_max, e_min, e_neg, e_bits, e_lenL, e_lenT, e_lenS, e_ixL, e_ixT, e_ixS, e_at0, e_at1, e_at2, e_map, e_lstOf, e_lstOfS, e_seqOf, e_seqOfT, e_seqOfS, e_isiIB, e_isiII, e_isiTT, e_isiLL, hs d hd, q, h2, show 2 ≤ LINE by show 2 ≤ 16777216; omega]; exact ⟨⟨rfl, rfl⟩, rfl⟩, ?_⟩
      exact ⟨_, rfl⟩)
  obtain ⟨δ, q⟩ := key
  have c : (-1000000 : Int) ≤ h ∧ (h : Int) ≤ 16777216 := by omega
  simp [m_node_there, b_node_there, e_tUnl, e_ext, e_ext0, e_ext1, e_ext2, e_dix, e_dix1, e_dix2, e_look, e_rev, e_rev1, e_lr1, e_lr11, e_isE1, e_isE2, e_isE3, e_isE4, e_isE5, e_isE6, e_try, e_try1, e_try2, e_eqAS, e_neAS, e_eqAI, e_neAI, e_bind_ok, e_bind_exc, e_bind_stk, e_var, e_var1, e_var2, e_move, e_move1, e_move2, e_C, e_fin1, e_bin, e_bin1, e_bin2, e_chain, e_chain1, e_chain2, e_chain3, e_chain4, e_chain5, e_if, e_if1, e_if2, e_tv, e_tv1, e_notT, e_notT1, e_andT, e_andT1, e_andT2, e_orT, e_orT1, e_orT2, e_andV, e_andV1, e_andV2, e_orV, e_orV1, e_orV2, e_notV, e_notV1, e_aNil, e_aCons, e_aCons1, e_aCons2, e_star, e_star1, e_star2, e_star3, e_lst, e_lst1, e_tup, e_tup1, e_call, e_call1, e_slot, e_slot1, e_sb, e_sb0, e_sb1, e_sb2, e_sb3, e_bs, e_bs1, e_bs2, e_lenV, e_lenV1, e_un, e_un1, e_def, e_def1, e_def2, e_def3, e_fix0, e_fix1, e_fix2, e_def4, e_def0, e_def01, e_jNil, e_jVal, e_jVal1, e_j2, e_jIo, e_jIo1, e_itD0, e_itD1, e_itD2, e_itD3, e_itJ0, e_itJ1, e_itJ2, e_itP0, e_itP1, e_itP2, e_setMany0, e_setMany1, e_nodup0, e_nodup1, e_noPart, e_part, e_part1, e_slice, e_slice1, e_slice2, e_slice3, e_lstRg, e_lstRg1, e_lstRg2, e_iSeq, e_iSeq1, e_iSeq2, e_iEn, e_iEn1, e_iEn2, e_iR1, e_iR11, e_iR2, e_iR21, e_yes, e_lc, e_lc1, e_lc2, e_wipe0, e_wipe1, e_back0, e_back1, e_back2, e_noneOwn0, e_noneOwn1, e_noneOwn2, e_noneOwn3, e_noneOwn4, e_name, e_set, e_tNil, e_tCons, e_tCons1, e_tTup, e_seq, e_seq1, e_seq2, e_seq3, e_seq4, e_seq5, e_next, e_break, e_cont, e_expr, e_expr1, e_ret, e_ret1, e_sIf, e_sIf1, e_sIf2, e_asg, e_asg1, e_asg2, e_aug, e_aug0, e_aug1, e_aug2, e_aug3, e_par, e_par1, e_par2, e_app, e_app0, e_app1, e_app2, e_setIx, e_setIx0, e_setIx1, e_setIx2, e_setIx3, e_setIx4, e_match, e_match1, e_mCase, e_mAny, e_raise, e_for, e_body, e_body1, e_body2, e_body3, e_body4, e_body5, e_outs0, e_outs1, e_outs2, e_start0, e_start1, e_addI, e_addL, e_addI2, e_sub, e_cmp, e_eqI, e_neI, e_eqB, e_isN0, e_isN1, e_isN2, e_isN3, e_notN0, e_notN1, e_notN2, e_notN3, e_int, e_intB, e_max, e_min, e_neg, e_bits, e_lenL, e_lenT, e_lenS, e_ixL, e_ixT, e_ixS, e_at0, e_at1, e_at2, e_map, e_lstOf, e_lstOfS, e_seqOf, e_seqOfT, e_seqOfS, e_isiIB, e_isiII, e_isiTT, e_isiLL, c, q]
end SM
namespace SM
open PySem PySem.Spec DL
open PyProof.Rows hiding St
theorem there_k (k : Kd) (h d n : Nat) (hd : d < h) (hh : h ≤ 100) (hn : n < 2 ^ d) : m_node_there [.str (kn k), .int h, .int (sp k h d n : Nat)] = .ok (nd d n, false) [] := by
  have bj := bij_kd k h
  obtain ⟨B, f, _⟩ := fall_kd k h d hd
  have g0 : grd (wz k h d) (((sp k h d n : Nat) : Int) - ((num k h d : Nat) : Int)) d = (0, (n : Int)) := by
    rw [show ((sp k h d n : Nat) : Int) - ((num k h d : Nat) : Int) = ((sN d n (ws k h d) d : Nat) : Int) by unfold sp; omega]
    exact grd_fall f n hn
  have r := there_gen (kn k) h d (sp k h d n : Nat) (fun e => ((num k h e : Nat) : Int)) (fun e => wz k h e) hh hd (fun e he => sums_k k h e he hh) ?_ (by rw [g0])
  · rw [g0] at r
    exact r
  · intro e he z
    have i := grd_id (wz k h e) (((sp k h d n : Nat) : Int) - ((num k h e : Nat) : Int)) e
    rw [z, Int.zero_add] at i
    have b := grd_b (wz k h e) (((sp k h d n : Nat) : Int) - ((num k h e : Nat) : Int)) e
    generalize (grd (wz k h e) (((sp k h d n : Nat) : Int) - ((num k h e : Nat) : Int)) e).2 = g at *
    have i2 : psum e g.toNat (wz k h e) e = ((sN e g.toNat (ws k h e) e : Nat) : Int) := psum_N _ _ _ _
    rw [i2] at i
    have hg : g.toNat < 2 ^ e := by have := pw e; omega
    have := bj.inj e g.toNat d n (by omega) hg hd hn (by unfold sp at i ⊢; omega)
    omega
/-- each place has its node -/
theorem at_k (k : Kd) (h p : Nat) (hh : h ≤ 100) (hp : p + 1 < 2 ^ h) : ∃ d n, d < h ∧ n < 2 ^ d ∧ sp k h d n = p ∧ m_node_there [.str (kn k), .int h, .int p] = .ok (nd d n, false) [] := by
  obtain ⟨d, n, h1, h2, h3⟩ := (bij_kd k h).on p hp
  refine ⟨d, n, h1, h2, h3, ?_⟩
  subst h3
  exact there_k k h d n h1 hh h2
end SM
namespace SM
open PySem PySem.Spec DL
open PyProof.Rows hiding St
theorem req_place (h p : Nat) (hh : h ≤ 100) (hp : p + 1 < 2 ^ h) : m_require_place [.int h, .int p] = .ok (.none, false) [] := by
  have s := shl1 h (by omega)
  have e : (p : Int) ≤ 2 ^ h - 2 := by have := pw h; omega
  simp [m_require_place, b_require_place, is_whole_int, e_tUnl, e_ext, e_ext0, e_ext1, e_ext2, e_dix, e_dix1, e_dix2, e_look, e_rev, e_rev1, e_lr1, e_lr11, e_isE1, e_isE2, e_isE3, e_isE4, e_isE5, e_isE6, e_try, e_try1, e_try2, e_eqAS, e_neAS, e_eqAI, e_neAI, e_bind_ok, e_bind_exc, e_bind_stk, e_var, e_var1, e_var2, e_move, e_move1, e_move2, e_C, e_fin1, e_bin, e_bin1, e_bin2, e_chain, e_chain1, e_chain2, e_chain3, e_chain4, e_chain5, e_if, e_if1, e_if2, e_tv, e_tv1, e_notT, e_notT1, e_andT, e_andT1, e_andT2, e_orT, e_orT1, e_orT2, e_andV, e_andV1, e_andV2, e_orV, e_orV1, e_orV2, e_notV, e_notV1, e_aNil, e_aCons, e_aCons1, e_aCons2, e_star, e_star1, e_star2, e_star3, e_lst, e_lst1, e_tup, e_tup1, e_call, e_call1, e_slot, e_slot1, e_sb, e_sb0, e_sb1, e_sb2, e_sb3, e_bs, e_bs1, e_bs2, e_lenV, e_lenV1, e_un, e_un1, e_def, e_def1, e_def2, e_def3, e_fix0, e_fix1, e_fix2, e_def4, e_def0, e_def01, e_jNil, e_jVal, e_jVal1, e_j2, e_jIo, e_jIo1, e_itD0, e_itD1, e_itD2, e_itD3, e_itJ0, e_itJ1, e_itJ2, e_itP0, e_itP1, e_itP2, e_setMany0, e_setMany1, e_nodup0, e_nodup1, e_noPart, e_part, e_part1, e_slice, e_slice1, e_slice2, e_slice3, e_lstRg, e_lstRg1, e_lstRg2, e_iSeq, e_iSeq1, e_iSeq2, e_iEn, e_iEn1, e_iEn2, e_iR1, e_iR11, e_iR2, e_iR21, e_yes, e_lc, e_lc1, e_lc2, e_wipe0, e_wipe1, e_back0, e_back1, e_back2, e_noneOwn0, e_noneOwn1, e_noneOwn2, e_noneOwn3, e_noneOwn4, e_name, e_set, e_tNil, e_tCons, e_tCons1, e_tTup, e_seq, e_seq1, e_seq2, e_seq3, e_seq4, e_seq5, e_next, e_break, e_cont, e_expr, e_expr1, e_ret, e_ret1, e_sIf, e_sIf1, e_sIf2, e_asg, e_asg1, e_asg2, e_aug, e_aug0, e_aug1, e_aug2, e_aug3, e_par, e_par1, e_par2, e_app, e_app0, e_app1, e_app2, e_setIx, e_setIx0, e_setIx1, e_setIx2, e_setIx3, e_setIx4, e_match, e_match1, e_mCase, e_mAny, e_raise, e_for, e_body, e_body1, e_body2, e_body3, e_body4, e_body5, e_outs0, e_outs1, e_outs2, e_start0, e_start1, e_addI, e_addL, e_addI2, e_sub, e_cmp, e_eqI, e_neI, e_eqB, e_isN0, e_isN1, e_isN2, e_isN3, e_notN0, e_notN1, e_notN2, e_notN3, e_int, e_intB, e_max, e_min, e_neg, e_bits, e_lenL, e_lenT, e_lenS, e_ixL, e_ixT, e_ixS, e_at0, e_at1, e_at2, e_map, e_lstOf, e_lstOfS, e_seqOf, e_seqOfT, e_seqOfS, e_isiIB, e_isiII, e_isiTT, e_isiLL, s, e]
theorem node_at_ok (q : Kd) (h d n : Nat) (hd : d < h) (hh : h ≤ 100) (hn : n < 2 ^ d) : m_node_at [.str (kn q), .int h, .int (sp q h d n : Nat)] = .ok (nd d n, false) [] := by
  have h1 := req_tree q h (by omega) hh
  have h2 := req_place h (sp q h d n) hh ((bij_kd q h).lt d n hd hn)
  have h3 := there_k q h d n hd hh hn
  simp [m_node_at, b_node_at, e_tUnl, e_ext, e_ext0, e_ext1, e_ext2, e_dix, e_dix1, e_dix2, e_look, e_rev, e_rev1, e_lr1, e_lr11, e_isE1, e_isE2, e_isE3, e_isE4, e_isE5, e_isE6, e_try, e_try1, e_try2, e_eqAS, e_neAS, e_eqAI, e_neAI, e_bind_ok, e_bind_exc, e_bind_stk, e_var, e_var1, e_var2, e_move, e_move1, e_move2, e_C, e_fin1, e_bin, e_bin1, e_bin2, e_chain, e_chain1, e_chain2, e_chain3, e_chain4, e_chain5, e_if, e_if1, e_if2, e_tv, e_tv1, e_notT, e_notT1, e_andT, e_andT1, e_andT2, e_orT, e_orT1, e_orT2, e_andV, e_andV1, e_andV2, e_orV, e_orV1, e_orV2, e_notV, e_notV1, e_aNil, e_aCons, e_aCons1, e_aCons2, e_star, e_star1, e_star2, e_star3, e_lst, e_lst1, e_tup, e_tup1, e_call, e_call1, e_slot, e_slot1, e_sb, e_sb0, e_sb1, e_sb2, e_sb3, e_bs, e_bs1, e_bs2, e_lenV, e_lenV1, e_un, e_un1, e_def, e_def1, e_def2, e_def3, e_fix0, e_fix1, e_fix2, e_def4, e_def0, e_def01, e_jNil, e_jVal, e_jVal1, e_j2, e_jIo, e_jIo1, e_itD0, e_itD1, e_itD2, e_itD3, e_itJ0, e_itJ1, e_itJ2, e_itP0, e_itP1, e_itP2, e_setMany0, e_setMany1, e_nodup0, e_nodup1, e_noPart, e_part, e_part1, e_slice, e_slice1, e_slice2, e_slice3, e_lstRg, e_lstRg1, e_lstRg2, e_iSeq, e_iSeq1, e_iSeq2, e_iEn, e_iEn1, e_iEn2, e_iR1, e_iR11, e_iR2, e_iR21, e_yes, e_lc, e_lc1, e_lc2, e_wipe0, e_wipe1, e_back0, e_back1, e_back2, e_noneOwn0, e_noneOwn1, e_noneOwn2, e_noneOwn3, e_noneOwn4, e_name, e_set, e_tNil, e_tCons, e_tCons1, e_tTup, e_seq, e_seq1, e_seq2, e_seq3, e_seq4, e_seq5, e_next, e_break, e_cont, e_expr, e_expr1, e_ret, e_ret1, e_sIf, e_sIf1, e_sIf2, e_asg, e_asg1, e_asg2, e_aug, e_aug0, e_aug1, e_aug2, e_aug3, e_par, e_par1, e_par2, e_app, e_app0, e_app1, e_app2, e_setIx, e_setIx0, e_setIx1, e_setIx2, e_setIx3, e_setIx4, e_match, e_match1, e_mCase, e_mAny, e_raise, e_for, e_body, e_body1, e_body2, e_body3, e_body4, e_body5, e_outs0, e_outs1, e_outs2, e_start0, e_start1, e_addI, e_addL, e_addI2, e_sub, e_cmp, e_eqI, e_neI, e_eqB, e_isN0, e_isN1, e_isN2, e_isN3, e_notN0, e_notN1, e_notN2, e_notN3, e_int, e_intB, e_max, e_min, e_neg, e_bits, e_lenL, e_lenT, e_lenS, e_ixL, e_ixT, e_ixS, e_at0, e_at1, e_at2, e_map, e_lstOf, e_lstOfS, e_seqOf, e_seqOfT, e_seqOfS, e_isiIB, e_isiII, e_isiTT, e_isiLL, h1, h2, h3]
end SM
namespace SM
open PySem PySem.Spec DL
open PyProof.Rows hiding St
def allK : List Kd := [.lev, .ino, .pre, .post, .les, .gre, .pow]
def kindsL : List D := allK.map fun k => .str (kn k)
theorem kinds_ok : m__law_kinds [] = .ok (.list kindsL, true) [] := by kernel_rfl
theorem kinds_at (t : Nat) (ht : t < 7) : ∃ o : Kd, dIx (.list kindsL) (.int t) = some (.str (kn o), false) := by
  have c : t = 0 ∨ t = 1 ∨ t = 2 ∨ t = 3 ∨ t = 4 ∨ t = 5 ∨ t = 6 := by omega
  rcases c with rfl | rfl | rfl | rfl | rfl | rfl | rfl
  · exact ⟨.lev, rfl⟩
  · exact ⟨.ino, rfl⟩
  · exact ⟨.pre, rfl⟩
  · exact ⟨.post, rfl⟩
  · exact ⟨.les, rfl⟩
  · exact ⟨.gre, rfl⟩
  · exact ⟨.pow, rfl⟩
end SM
namespace SM
open PySem PySem.Spec DL
open PyProof.Rows hiding St
def BL (m : Nat) (r : D) : Prop := ∃ a s c : Int, r = .list [.int a, .int s, .int c] ∧ 0 ≤ a ∧ 0 ≤ c ∧ c ≤ m
theorem BL.mono {m m' : Nat} {r : D} (h : BL m r) (hm : m ≤ m') : BL m' r := by
  obtain ⟨a, b, c, e, h1, h4, h5⟩ := h
  exact ⟨a, b, c, e, h1, h4, by omega⟩
theorem p15 : dPow (.int 10) (.int 15) = some (.int 1000000000000000, false) := id rfl
theorem pick_ok {m : Nat} {r : D} (h : BL m r) (hm : m ≤ 1000000) (many : Int) (h0 : 0 < many) (hb : many.natAbs < 2 ^ 9000) : ∃ (v : Nat) (r' : D), m__law_pick [r, .int many] = .ok (.int v, false) [r'] ∧ (v : Int) < many ∧ BL (m + 1) r' := by
  obtain ⟨a, s, c, rfl, h1, h4, h5⟩ := h
  by_cases ha : 0 < a
  · have e1 := dMod_ok (i := a) h0
    have e2 := dDiv_ok (i := a) h0 hb
    have g1 := Int.emod_nonneg a (show many ≠ 0 by omega)
    have g2 := Int.emod_lt_of_pos a h0
    have g3 : 0 ≤ a / many := Int.ediv_nonneg h1 (by omega)
    refine ⟨(a % many).toNat, .list [.int (a / many), .int s, .int (c + 1)], ?_, by omega, ⟨_, _, _, rfl, g3, by omega, by omega⟩⟩
    simp [m__law_pick, b__law_pick, e_tUnl, e_ext, e_ext0, e_ext1, e_ext2, e_dix, e_dix1, e_dix2, e_look, e_rev, e_rev1, e_lr1, e_lr11, e_isE1, e_isE2, e_isE3, e_isE4, e_isE5, e_isE6, e_try, e_try1, e_try2, e_eqAS, e_neAS, e_eqAI, e_neAI, e_bind_ok, e_bind_exc, e_bind_stk, e_var, e_var1, e_var2, e_move, e_move1, e_move2, e_C, e_fin1, e_bin, e_bin1, e_bin2, e_chain, e_chain1, e_chain2, e_chain3, e_chain4, e_chain5, e_if, e_if1, e_if2, e_tv, e_tv1, e_notT, e_notT1, e_andT, e_andT1, e_andT2, e_orT, e_orT1, e_orT2, e_andV, e_andV1, e_andV2, e_orV, e_orV1, e_orV2, e_notV, e_notV1, e_aNil, e_aCons, e_aCons1, e_aCons2, e_star, e_star1, e_star2, e_star3, e_lst, e_lst1, e_tup, e_tup1, e_call, e_call1, e_slot, e_slot1, e_sb, e_sb0, e_sb1, e_sb2, e_sb3, e_bs, e_bs1, e_bs2, e_lenV, e_lenV1, e_un, e_un1, e_def, e_def1, e_def2, e_def3, e_fix0, e_fix1, e_fix2, e_def4, e_def0, e_def01, e_jNil, e_jVal, e_jVal1, e_j2, e_jIo, e_jIo1, e_itD0, e_itD1, e_itD2, e_itD3, e_itJ0, e_itJ1, e_itJ2, e_itP0, e_itP1, e_itP2, e_setMany0, e_setMany1, e_nodup0, e_nodup1, e_noPart, e_part, e_part1, e_slice, e_slice1, e_slice2, e_slice3, e_lstRg, e_lstRg1, e_lstRg2, e_iSeq, e_iSeq1, e_iSeq2, e_iEn, e_iEn1, e_iEn2, e_iR1, e_iR11, e_iR2, e_iR21, e_yes, e_lc, e_lc1, e_lc2, e_wipe0, e_wipe1, e_back0, e_back1, e_back2, e_noneOwn0, e_noneOwn1, e_noneOwn2, e_noneOwn3, e_noneOwn4, e_name, e_set, e_tNil, e_tCons, e_tCons1, e_tTup, e_seq, e_seq1, e_seq2, e_seq3, e_seq4, e_seq5, e_next, e_break, e_cont, e_expr, e_expr1, e_ret, e_ret1, e_sIf, e_sIf1, e_sIf2, e_asg, e_asg1, e_asg2, e_aug, e_aug0, e_aug1, e_aug2, e_aug3, e_par, e_par1, e_par2, e_app, e_app0, e_app1, e_app2, e_setIx, e_setIx0, e_setIx1, e_setIx2, e_setIx3, e_setIx4, e_match, e_match1, e_mCase, e_mAny, e_raise, e_for, e_body, e_body1, e_body2, e_body3, e_body4, e_body5, e_outs0, e_outs1, e_outs2, e_start0, e_start1, e_addI, e_addL, e_addI2, e_sub, e_cmp, e_eqI, e_neI, e_eqB, e_isN0, e_isN1, e_isN2, e_isN3, e_notN0, e_notN1, e_notN2, e_notN3, e_int, e_intB, e_max, e_min, e_neg, e_bits, e_lenL, e_lenT, e_lenS, e_ixL, e_ixT, e_ixS, e_at0, e_at1, e_at2, e_map, e_lstOf, e_lstOfS, e_seqOf, e_seqOfT, e_seqOfS, e_isiIB, e_isiII, e_isiTT, e_isiLL, ha, e1, e2, Int.max_eq_left g1, L2.ixN]
  · have f1 := dMod_ok (i := s) (show (0 : Int) < 2147483629 by decide)
    have g1 := Int.emod_nonneg s (show (2147483629 : Int) ≠ 0 by omega)
    have g2 := Int.emod_lt_of_pos s (show (0 : Int) < 2147483629 by omega)
    generalize s % 2147483629 = x at *
    have f2 : dMul (.int x) (.int 48271) = some (.int (x * 48271), false) := dMul_ok 40 20 (by omega) (by decide) (by decide)
    have f3 : dMul (.int (c + 1)) (.int 69621) = some (.int ((c + 1) * 69621), false) := dMul_ok 40 20 (by omega) (by decide) (by decide)
    have f4 := dMod_ok (i := x * 48271 + (c + 1) * 69621 + 12345) (show (0 : Int) < 2147483647 by decide)
    have g3 := Int.emod_nonneg (x * 48271 + (c + 1) * 69621 + 12345) (show (2147483647 : Int) ≠ 0 by omega)
    have g4 := Int.emod_lt_of_pos (x * 48271 + (c + 1) * 69621 + 12345) (show (0 : Int) < 2147483647 by omega)
    generalize (x * 48271 + (c + 1) * 69621 + 12345) % 2147483647 = y at *
    have f5 : dMul (.int y) (.int y) = some (.int (y * y), false) := dMul_ok 40 40 (by omega) (by omega) (by decide)
    have f6 : dMul (.int (c + 1)) (.int 40692) = some (.int ((c + 1) * 40692), false) := dMul_ok 40 20 (by omega) (by decide) (by decide)
    generalize hyy : y * y = yy at *
    have f7 := dMod_ok (i := yy + (c + 1) * 40692) (show (0 : Int) < 2147483587 by decide)
    have g5 := Int.emod_nonneg (yy + (c + 1) * 40692) (show (2147483587 : Int) ≠ 0 by omega)
    have g6 := Int.emod_lt_of_pos (yy + (c + 1) * 40692) (show (0 : Int) < 2147483587 by omega)
    generalize (yy + (c + 1) * 40692) % 2147483587 = z at *
    have f8 : dMul (.int y) (.int 2147483587) = some (.int (y * 2147483587), false) := dMul_ok 40 40 (by omega) (by decide) (by decide)
    have f9 : dDiv (.int (y * 2147483587 + z)) (.int 32) = some (.int ((y * 2147483587 + z) / 32), false) := dDiv_ok (by omega) (Nat.lt_of_lt_of_le (by decide : 32 < 2 ^ 20) (Nat.pow_le_pow_right (by omega) (by omega)))
    have g7 : 0 ≤ (y * 2147483587 + z) / 32 := by omega
    have g8 : (y * 2147483587 + z) / 32 < 2 ^ 62 := by omega
    generalize (y * 2147483587 + z) / 32 = w at *
    have f10 : dPow (.int w) (.int 8) = some (.int (w ^ 8), false) := dPow_ok 64 (by omega) (by omega) (by decide)
    generalize w ^ 8 = w8 at *
    by_cases big : 1000000000000000 < many
    · have f11 := dMod_ok (i := w8 + z) h0
      have g9 := Int.emod_nonneg (w8 + z) (show many ≠ 0 by omega)
      have g10 := Int.emod_lt_of_pos (w8 + z) h0
      refine ⟨((w8 + z) % many).toNat, .list [.int a, .int s, .int (c + 1)], ?_, by omega, ⟨_, _, _, rfl, h1, by omega, by omega⟩⟩
      simp [m__law_pick, b__law_pick, e_tUnl, e_ext, e_ext0, e_ext1, e_ext2, e_dix, e_dix1, e_dix2, e_look, e_rev, e_rev1, e_lr1, e_lr11, e_isE1, e_isE2, e_isE3, e_isE4, e_isE5, e_isE6, e_try, e_try1, e_try2, e_eqAS, e_neAS, e_eqAI, e_neAI, e_bind_ok, e_bind_exc, e_bind_stk, e_var, e_var1, e_var2, e_move, e_move1, e_move2, e_C, e_fin1, e_bin, e_bin1, e_bin2, e_chain, e_chain1, e_chain2, e_chain3, e_chain4, e_chain5, e_if, e_if1, e_if2, e_tv, e_tv1, e_notT, e_notT1, e_andT, e_andT1, e_andT2, e_orT, e_orT1, e_orT2, e_andV, e_andV1, e_andV2, e_orV, e_orV1, e_orV2, e_notV, e_notV1, e_aNil, e_aCons, e_aCons1, e_aCons2, e_star, e_star1, e_star2, e_star3, e_lst, e_lst1, e_tup, e_tup1, e_call, e_call1, e_slot, e_slot1, e_sb, e_sb0, e_sb1, e_sb2, e_sb3, e_bs, e_bs1, e_bs2, e_lenV, e_lenV1, e_un, e_un1, e_def, e_def1, e_def2, e_def3, e_fix0, e_fix1, e_fix2, e_def4, e_def0, e_def01, e_jNil, e_jVal, e_jVal1, e_j2, e_jIo, e_jIo1, e_itD0, e_itD1, e_itD2, e_itD3, e_itJ0, e_itJ1, e_itJ2, e_itP0, e_itP1, e_itP2, e_setMany0, e_setMany1, e_nodup0, e_nodup1, e_noPart, e_part, e_part1, e_slice, e_slice1, e_slice2, e_slice3, e_lstRg, e_lstRg1, e_lstRg2, e_iSeq, e_iSeq1, e_iSeq2, e_iEn, e_iEn1, e_iEn2, e_iR1, e_iR11, e_iR2, e_iR21, e_yes, e_lc, e_lc1, e_lc2, e_wipe0, e_wipe1, e_back0, e_back1, e_back2, e_noneOwn0, e_noneOwn1, e_noneOwn2, e_noneOwn3, e_noneOwn4, e_name, e_set, e_tNil, e_tCons, e_tCons1, e_tTup, e_seq, e_seq1, e_seq2, e_seq3, e_seq4, e_seq5, e_next, e_break, e_cont, e_expr, e_expr1, e_ret, e_ret1, e_sIf, e_sIf1, e_sIf2, e_asg, e_asg1, e_asg2, e_aug, e_aug0, e_aug1, e_aug2, e_aug3, e_par, e_par1, e_par2, e_app, e_app0, e_app1, e_app2, e_setIx, e_setIx0, e_setIx1, e_setIx2, e_setIx3, e_setIx4, e_match, e_match1, e_mCase, e_mAny, e_raise, e_for, e_body, e_body1, e_body2, e_body3, e_body4, e_body5, e_outs0, e_outs1, e_outs2, e_start0, e_start1, e_addI, e_addL, e_addI2, e_sub, e_cmp, e_eqI, e_neI, e_eqB, e_isN0, e_isN1, e_isN2, e_isN3, e_notN0, e_notN1, e_notN2, e_notN3, e_int, e_intB, e_max, e_min, e_neg, e_bits, e_lenL, e_lenT, e_lenS, e_ixL, e_ixT, e_ixS, e_at0, e_at1, e_at2, e_map, e_lstOf, e_lstOfS, e_seqOf, e_seqOfT, e_seqOfS, e_isiIB, e_isiII, e_isiTT, e_isiLL, ha, p15, f1, f2, f3, f4, f5, f6, f7, f8, f9, f10, big, f11, Int.max_eq_left g9, L2.ixN]
    · have f11 := dMod_ok (i := w) h0
      have g9 := Int.emod_nonneg w (show many ≠ 0 by omega)
      have g10 := Int.emod_lt_of_pos w h0
      refine ⟨(w % many).toNat, .list [.int a, .int s, .int (c + 1)], ?_, by omega, ⟨_, _, _, rfl, h1, by omega, by omega⟩⟩
      simp [m__law_pick, b__law_pick, e_tUnl, e_ext, e_ext0, e_ext1, e_ext2, e_dix, e_dix1, e_dix2, e_look, e_rev, e_rev1, e_lr1, e_lr11, e_isE1, e_isE2, e_isE3, e_isE4, e_isE5, e_isE6, e_try, e_try1, e_try2, e_eqAS, e_neAS, e_eqAI, e_neAI, e_bind_ok, e_bind_exc, e_bind_stk, e_var, e_var1, e_var2, e_move, e_move1, e_move2, e_C, e_fin1, e_bin, e_bin1, e_bin2, e_chain, e_chain1, e_chain2, e_chain3, e_chain4, e_chain5, e_if, e_if1, e_if2, e_tv, e_tv1, e_notT, e_notT1, e_andT, e_andT1, e_andT2, e_orT, e_orT1, e_orT2, e_andV, e_andV1, e_andV2, e_orV, e_orV1, e_orV2, e_notV, e_notV1, e_aNil, e_aCons, e_aCons1, e_aCons2, e_star, e_star1, e_star2, e_star3, e_lst, e_lst1, e_tup, e_tup1, e_call, e_call1, e_slot, e_slot1, e_sb, e_sb0, e_sb1, e_sb2, e_sb3, e_bs, e_bs1, e_bs2, e_lenV, e_lenV1, e_un, e_un1, e_def, e_def1, e_def2, e_def3, e_fix0, e_fix1, e_fix2, e_def4, e_def0, e_def01, e_jNil, e_jVal, e_jVal1, e_j2, e_jIo, e_jIo1, e_itD0, e_itD1, e_itD2, e_itD3, e_itJ0, e_itJ1, e_itJ2, e_itP0, e_itP1, e_itP2, e_setMany0, e_setMany1, e_nodup0, e_nodup1, e_noPart, e_part, e_part1, e_slice, e_slice1, e_slice2, e_slice3, e_lstRg, e_lstRg1, e_lstRg2, e_iSeq, e_iSeq1, e_iSeq2, e_iEn, e_iEn1, e_iEn2, e_iR1, e_iR11, e_iR2, e_iR21, e_yes, e_lc, e_lc1, e_lc2, e_wipe0, e_wipe1, e_back0, e_back1, e_back2, e_noneOwn0, e_noneOwn1, e_noneOwn2, e_noneOwn3, e_noneOwn4, e_name, e_set, e_tNil, e_tCons, e_tCons1, e_tTup, e_seq, e_seq1, e_seq2, e_seq3, e_seq4, e_seq5, e_next, e_break, e_cont, e_expr, e_expr1, e_ret, e_ret1, e_sIf, e_sIf1, e_sIf2, e_asg, e_asg1, e_asg2, e_aug, e_aug0, e_aug1, e_aug2, e_aug3, e_par, e_par1, e_par2, e_app, e_app0, e_app1, e_app2, e_setIx, e_setIx0, e_setIx1, e_setIx2, e_setIx3, e_setIx4, e_match, e_match1, e_mCase, e_mAny, e_raise, e_for, e_body, e_body1, e_body2, e_body3, e_body4, e_body5, e_outs0, e_outs1, e_outs2, e_start0, e_start1, e_addI, e_addL, e_addI2, e_sub, e_cmp, e_eqI, e_neI, e_eqB, e_isN0, e_isN1, e_isN2, e_isN3, e_notN0, e_notN1, e_notN2, e_notN3, e_int, e_intB, e_max, e_min, e_neg, e_bits, e_lenL, e_lenT, e_lenS, e_ixL, e_ixT, e_ixS, e_at0, e_at1, e_at2, e_map, e_lstOf, e_lstOfS, e_seqOf, e_seqOfT, e_seqOfS, e_isiIB, e_isiII, e_isiTT, e_isiLL, ha, p15, f1, f2, f3, f4, f5, f6, f7, f8, f9, f10, big, f11, Int.max_eq_left g9, L2.ixN]
theorem pick2 {m : Nat} {r : D} (h : BL m r) (hm : m ≤ 1000000) (k : Nat) (hk : k ≤ 200) : ∃ (v : Nat) (r' : D), m__law_pick [r, .int (2 ^ k)] = .ok (.int v, false) [r'] ∧ v < 2 ^ k ∧ BL (m + 1) r' := by
  have p := p2pos k
  have q := pw k
  obtain ⟨v, r', h1, h2, h3⟩ := pick_ok h hm (2 ^ k) (by omega) (by
    rw [← q]
    exact Nat.pow_lt_pow_right (by omega) (by omega))
  exact ⟨v, r', h1, by omega, h3⟩
theorem pickN {m : Nat} {r : D} (h : BL m r) (hm : m ≤ 1000000) (k : Nat) (hk : 0 < k) (hk2 : k ≤ 2000000) : ∃ (v : Nat) (r' : D), m__law_pick [r, .int k] = .ok (.int v, false) [r'] ∧ v < k ∧ BL (m + 1) r' := by
  obtain ⟨v, r', h1, h2, h3⟩ := pick_ok h hm k (by omega) (by
    have : (k : Int).natAbs < 2 ^ 21 := by omega
    exact Nat.lt_of_lt_of_le this (Nat.pow_le_pow_right (by omega) (by omega)))
  exact ⟨v, r', h1, by omega, h3⟩
theorem p18 : dPow (.int 10) (.int 18) = some (.int 1000000000000000000, false) := id rfl
theorem bag_ok (z : Int) : ∃ r, m__law_bag [.int z] = .ok (r, true) [] ∧ BL 0 r := by
  refine ⟨.list [.int (if z - 1000000000000000000 > 0 then z - 1000000000000000000 else 0), .int z, .int 0], ?_, ⟨_, _, _, rfl, by split <;> omega, by omega, by omega⟩⟩
  simp [m__law_bag, b__law_bag, e_tUnl, e_ext, e_ext0, e_ext1, e_ext2, e_dix, e_dix1, e_dix2, e_look, e_rev, e_rev1, e_lr1, e_lr11, e_isE1, e_isE2, e_isE3, e_isE4, e_isE5, e_isE6, e_try, e_try1, e_try2, e_eqAS, e_neAS, e_eqAI, e_neAI, e_bind_ok, e_bind_exc, e_bind_stk, e_var, e_var1, e_var2, e_move, e_move1, e_move2, e_C, e_fin1, e_bin, e_bin1, e_bin2, e_chain, e_chain1, e_chain2, e_chain3, e_chain4, e_chain5, e_if, e_if1, e_if2, e_tv, e_tv1, e_notT, e_notT1, e_andT, e_andT1, e_andT2, e_orT, e_orT1, e_orT2, e_andV, e_andV1, e_andV2, e_orV, e_orV1, e_orV2, e_notV, e_notV1, e_aNil, e_aCons, e_aCons1, e_aCons2, e_star, e_star1, e_star2, e_star3, e_lst, e_lst1, e_tup, e_tup1, e_call, e_call1, e_slot, e_slot1, e_sb, e_sb0, e_sb1, e_sb2, e_sb3, e_bs, e_bs1, e_bs2, e_lenV, e_lenV1, e_un, e_un1, e_def, e_def1, e_def2, e_def3, e_fix0, e_fix1, e_fix2, e_def4, e_def0, e_def01, e_jNil, e_jVal, e_jVal1, e_j2, e_jIo, e_jIo1, e_itD0, e_itD1, e_itD2, e_itD3, e_itJ0, e_itJ1, e_itJ2, e_itP0, e_itP1, e_itP2, e_setMany0, e_setMany1, e_nodup0, e_nodup1, e_noPart, e_part, e_part1, e_slice, e_slice1, e_slice2, e_slice3, e_lstRg, e_lstRg1, e_lstRg2, e_iSeq, e_iSeq1, e_iSeq2, e_iEn, e_iEn1, e_iEn2, e_iR1, e_iR11, e_iR2, e_iR21, e_yes, e_lc, e_lc1, e_lc2, e_wipe0, e_wipe1, e_back0, e_back1, e_back2, e_noneOwn0, e_noneOwn1, e_noneOwn2, e_noneOwn3, e_noneOwn4, e_name, e_set, e_tNil, e_tCons, e_tCons1, e_tTup, e_seq, e_seq1, e_seq2, e_seq3, e_seq4, e_seq5, e_next, e_break, e_cont, e_expr, e_expr1, e_ret, e_ret1, e_sIf, e_sIf1, e_sIf2, e_asg, e_asg1, e_asg2, e_aug, e_aug0, e_aug1, e_aug2, e_aug3, e_par, e_par1, e_par2, e_app, e_app0, e_app1, e_app2, e_setIx, e_setIx0, e_setIx1, e_setIx2, e_setIx3, e_setIx4, e_match, e_match1, e_mCase, e_mAny, e_raise, e_for, e_body, e_body1, e_body2, e_body3, e_body4, e_body5, e_outs0, e_outs1, e_outs2, e_start0, e_start1, e_addI, e_addL, e_addI2, e_sub, e_cmp, e_eqI, e_neI, e_eqB, e_isN0, e_isN1, e_isN2, e_isN3, e_notN0, e_notN1, e_notN2, e_notN3, e_int, e_intB, e_max, e_min, e_neg, e_bits, e_lenL, e_lenT, e_lenS, e_ixL, e_ixT, e_ixS, e_at0, e_at1, e_at2, e_map, e_lstOf, e_lstOfS, e_seqOf, e_seqOfT, e_seqOfS, e_isiIB, e_isiII, e_isiTT, e_isiLL, p18, l3]
/-- the cells of the law's top: the first c numbers and a zero -/
def cellsL (ns : List Int) (c : Nat) : List D := (ns.take c ++ [0]).map PyData.int
theorem slice_scr (ns : List Int) (hns : ns.length ≤ 63) (c : Nat) (hc : c ≤ 63) : dSlice (scrD ns) none (some (c : Int)) = some (.list ((ns.take c).map PyData.int), true) := by
  have e : DL.cutD (ns.map PyData.int) none (some (c : Int)) = (ns.take c).map PyData.int := by
    unfold DL.cutD
    have e1 : HT.sIx (ns.map PyData.int).length 0 none = 0 := rfl
    have e2 : HT.sIx (ns.map PyData.int).length (ns.map PyData.int).length (some (c : Int)) = min c ns.length := by
      simp [HT.sIx, List.length_map]
      omega
    rw [e1, e2, List.drop_zero, Nat.sub_zero, ← List.map_take]
    congr 1
    by_cases q : c ≤ ns.length
    · rw [Nat.min_eq_left q]
    · rw [Nat.min_eq_right (by omega), List.take_of_length_le (by omega), List.take_of_length_le (by omega)]
  show (if (ns.map PyData.int).length ≤ LINE then some (PyData.list (DL.cutD (ns.map PyData.int) none (some (c : Int))), true) else none) = _
  rw [if_pos (by rw [List.length_map]; show _ ≤ 16777216; omega), e]
theorem cells_len (ns : List Int) (c : Nat) (hc : c ≤ 63) : ((ns.take c).map PyData.int).length + 1 ≤ LINE := by
  rw [List.length_map, List.length_take]
  show _ ≤ 16777216
  omega
theorem cells_app (ns : List Int) (c : Nat) : (ns.take c).map PyData.int ++ [.int 0] = cellsL ns c := by
  unfold cellsL
  rw [List.map_append]
  rfl
theorem cells_get {ns : List Int} {c i : Nat} {x : D} (h : (cellsL ns c)[i]? = some x) : i ≤ c ∧ ∃ z : Int, x = .int z := by
  unfold cellsL at h
  rw [List.getElem?_map] at h
  obtain ⟨z, h1, rfl⟩ := Option.map_eq_some_iff.mp h
  have := (List.getElem?_eq_some_iff.mp h1).1
  rw [List.length_append, List.length_take, List.length_singleton] at this
  exact ⟨by omega, z, rfl⟩
end SM
namespace SM
open PySem PySem.Spec DL
open PyProof.Rows hiding St
theorem min3 (h : Nat) (h1 : 1 ≤ h) : ∃ g : Nat, dMin2 [.int 3, .int (h : Int)] = some (.int (g : Int), false) ∧ 1 ≤ g ∧ g ≤ 3 ∧ g ≤ h := by
  rw [e_min]
  by_cases c : (h : Int) < 3
  · exact ⟨h, by rw [if_pos c], h1, by omega, by omega⟩
  · exact ⟨3, by rw [if_neg c]; rfl, by omega, by omega, by omega⟩
theorem node_ok {m : Nat} {r : D} (b : BL m r) (hm : m ≤ 1000) (h : Nat) (h1 : 1 ≤ h) (hh : h ≤ 100) : ∃ (d n : Nat) (r' : D), m__law_node [r, .int (h : Nat)] = .ok (nd d n, false) [r'] ∧ d < h ∧ n < 2 ^ d ∧ BL (m + 4) r' := by
  obtain ⟨v1, r1, s1, hv1, b1⟩ := pickN b (by omega) h (by omega) (by omega)
  obtain ⟨g, eg, g1, g2, g3⟩ := min3 h h1
  obtain ⟨v2, r2, s2, hv2, b2⟩ := pickN b1 (by omega) g (by omega) (by omega)
  obtain ⟨v3, r3, s3, hv3, b3⟩ := pickN b2 (by omega) 2 (by omega) (by omega)
  have s3 : m__law_pick [r2, .int 2] = .ok (.int (v3 : Nat), false) [r3] := s3
  obtain ⟨d, hd, ed⟩ : ∃ d : Nat, d < h ∧ dIx (.list [.int (v1 : Int), .int ((h : Int) - 1 - (v2 : Int))]) (.int (v3 : Int)) = some (.int (d : Int), false) := by
    rcases (show v3 = 0 ∨ v3 = 1 by omega) with e | e <;> subst e
    · exact ⟨v1, hv1, id rfl⟩
    · refine ⟨h - 1 - v2, by omega, ?_⟩
      rw [show ((h - 1 - v2 : Nat) : Int) = (h : Int) - 1 - (v2 : Int) by omega]
      exact id rfl
  obtain ⟨n, r4, s4, hn, b4⟩ := pick2 b3 (by omega) d (by omega)
  have e1 := shl1 d (by omega)
  have l2 := l2
  refine ⟨d, n, r4, ?_, hd, hn, b4⟩
  have en : PyData.tuple [.int (d : Int), .int (n : Int)] = nd d n := rfl
  generalize (2 : Int) ^ d = PW at *
  generalize ((v1 : Nat) : Int) = V1 at *
  generalize ((v2 : Nat) : Int) = V2 at *
  generalize ((v3 : Nat) : Int) = V3 at *
  generalize ((g : Nat) : Int) = GG at *
  generalize ((h : Nat) : Int) = HH at *
  simp [m__law_node, b__law_node, e_tUnl, e_ext, e_ext0, e_ext1, e_ext2, e_dix, e_dix1, e_dix2, e_look, e_rev, e_rev1, e_lr1, e_lr11, e_isE1, e_isE2, e_isE3, e_isE4, e_isE5, e_isE6, e_try, e_try1, e_try2, e_eqAS, e_neAS, e_eqAI, e_neAI, e_bind_ok, e_bind_exc, e_bind_stk, e_var, e_var1, e_var2, e_move, e_move1, e_move2, e_C, e_fin1, e_bin, e_bin1, e_bin2, e_chain, e_chain1, e_chain2, e_chain3, e_chain4, e_chain5, e_if, e_if1, e_if2, e_tv, e_tv1, e_notT, e_notT1, e_andT, e_andT1, e_andT2, e_orT, e_orT1, e_orT2, e_andV, e_andV1, e_andV2, e_orV, e_orV1, e_orV2, e_notV, e_notV1, e_aNil, e_aCons, e_aCons1, e_aCons2, e_star, e_star1, e_star2, e_star3, e_lst, e_lst1, e_tup, e_tup1, e_call, e_call1, e_slot, e_slot1, e_sb, e_sb0, e_sb1, e_sb2, e_sb3, e_bs, e_bs1, e_bs2, e_lenV, e_lenV1, e_un, e_un1, e_def, e_def1, e_def2, e_def3, e_fix0, e_fix1, e_fix2, e_def4, e_def0, e_def01, e_jNil, e_jVal, e_jVal1, e_j2, e_jIo, e_jIo1, e_itD0, e_itD1, e_itD2, e_itD3, e_itJ0, e_itJ1, e_itJ2, e_itP0, e_itP1, e_itP2, e_setMany0, e_setMany1, e_nodup0, e_nodup1, e_noPart, e_part, e_part1, e_slice, e_slice1, e_slice2, e_slice3, e_lstRg, e_lstRg1, e_lstRg2, e_iSeq, e_iSeq1, e_iSeq2, e_iEn, e_iEn1, e_iEn2, e_iR1, e_iR11, e_iR2, e_iR21, e_yes, e_lc, e_lc1, e_lc2, e_wipe0, e_wipe1, e_back0, e_back1, e_back2, e_noneOwn0, e_noneOwn1, e_noneOwn2, e_noneOwn3, e_noneOwn4, e_name, e_set, e_tNil, e_tCons, e_tCons1, e_tTup, e_seq, e_seq1, e_seq2, e_seq3, e_seq4, e_seq5, e_next, e_break, e_cont, e_expr, e_expr1, e_ret, e_ret1, e_sIf, e_sIf1, e_sIf2, e_asg, e_asg1, e_asg2, e_aug, e_aug0, e_aug1, e_aug2, e_aug3, e_par, e_par1, e_par2, e_app, e_app0, e_app1, e_app2, e_setIx, e_setIx0, e_setIx1, e_setIx2, e_setIx3, e_setIx4, e_match, e_match1, e_mCase, e_mAny, e_raise, e_for, e_body, e_body1, e_body2, e_body3, e_body4, e_body5, e_outs0, e_outs1, e_outs2, e_start0, e_start1, e_addI, e_addL, e_addI2, e_sub, e_cmp, e_eqI, e_neI, e_eqB, e_isN0, e_isN1, e_isN2, e_isN3, e_notN0, e_notN1, e_notN2, e_notN3, e_int, e_intB, e_max, e_min, e_neg, e_bits, e_lenL, e_lenT, e_lenS, e_ixL, e_ixT, e_ixS, e_at0, e_at1, e_at2, e_map, e_lstOf, e_lstOfS, e_seqOf, e_seqOfT, e_seqOfS, e_isiIB, e_isiII, e_isiTT, e_isiLL, s1, eg, s2, s3, ed, e1, s4, en, l2, -e_ixL, -e_min]
theorem eq_two (a b c d : Int) : dEqA (.list [.int a, .int b]) (.list [.int c, .int d]) = some (.bool ((a == c) && (b == d)), false) := by
  rw [e_eqAL]
  unfold dEq
  rw [if_pos (by kernel_rfl), eqv_list, eqvAll_cons, eqvAll_cons, eqvAll_nil, eqv_int, eqv_int]
  simp
end SM
namespace SM
open PySem PySem.Spec DL
open PyProof.Rows hiding St
def wayP (d n : Nat) : Zs := (List.range (d + 1)).map fun s => (s, n / 2 ^ (d - s))
theorem wayP_nz (d n : Nat) : (wayP d n).map nzX = wayL d n (d + 1) := by
  unfold wayP wayL
  rw [List.map_map]
  rfl
theorem wayP_ok {d n : Nat} (hd : d < 100) (hn : n < 2 ^ d) : ZsOK (wayP d n) := by
  refine ⟨fun z hz => ?_, by simp [wayP]; omega⟩
  obtain ⟨s, hs, rfl⟩ := List.mem_map.mp hz
  have hs := List.mem_range.mp hs
  exact ⟨by show s < 100; omega, div_lt_p hn (by omega)⟩
theorem way_okZ {d n : Nat} (hd : d < 100) : m__law_way [nd d n] = .ok (zl (wayP d n), true) [] := by
  have := way_ok d n (by omega)
  unfold zl
  rw [wayP_nz]
  exact this
theorem nine_ok {m : Nat} {r : D} (b : BL m r) (hm : m ≤ 1000) (q : Kd) (h : Nat) (h1 : 1 ≤ h) (hh : h ≤ 100) (x1 x4 x5 x6 : Option (Bool × D)) : ∃ (zs : Zs) (r' : D), lcD [16] (gtName [0] 16) gYes ce_right_1 (rgN 0 9) [] [some (true, r), x1, some (false, PyData.int ((h : Nat))), some (false, PyData.str (kn q)), x4, x5, x6, none, none, none, none, none, none, none, none, none, none, none, none, none, none] = .ok (zs.map nzX) [some (true, r'), x1, some (false, PyData.int ((h : Nat))), some (false, PyData.str (kn q)), x4, x5, x6, none, none, none, none, none, none, none, none, none, none, none, none, none, none] ∧ ZsOK zs ∧ BL (m + 9) r' := by
  obtain ⟨acc, δ', f, zs, r', rfl, rfl, k1, k2, b'⟩ := lcD_inv (vs := [16]) (tgt := gtName [0] 16) (gt := gYes) (ge := ce_right_1) (ds := rgN 0 9) (δ := [some (true, r), x1, some (false, PyData.int ((h : Nat))), some (false, PyData.str (kn q)), x4, x5, x6, none, none, none, none, none, none, none, none, none, none, none, none, none, none])
    (fun i acc δ => ∃ (zs : Zs) (r' : D), acc = zs.map nzX ∧ δ = [some (true, r'), x1, some (false, PyData.int ((h : Nat))), some (false, PyData.str (kn q)), x4, x5, x6, none, none, none, none, none, none, none, none, none, none, none, none, none, none] ∧ (∀ z ∈ zs, InX z) ∧ zs.length = i ∧ BL (m + i) r') ⟨[], r, rfl, rfl, fun z hz => absurd hz (by simp), rfl, b⟩ (by
      rintro i x acc δ hx ⟨zs, r1, rfl, rfl, k1, k2, b1⟩
      have hi : i < 9 := by
        have := (List.getElem?_eq_some_iff.mp hx).1
        simpa [rgN] using this
      obtain ⟨j, rfl⟩ : ∃ j : Int, x = .int j := by
        obtain ⟨k, _, rfl⟩ := List.mem_map.mp (List.mem_of_getElem? hx)
        exact ⟨_, rfl⟩
      have p := p2pos h
      have p1 : 2 ^ 1 ≤ 2 ^ h := Nat.pow_le_pow_right (by omega) h1
      have e0 := pw h
      obtain ⟨v, r2, s1, hv, b2⟩ := pick_ok b1 (by omega) ((2 : Int) ^ h - 1) (by omega) (by
        rw [← e0]
        have : ((2 ^ h : Nat) : Int).natAbs = 2 ^ h := rfl
        have l : 2 ^ h < 2 ^ 9000 := Nat.pow_lt_pow_right (by omega) (by omega)
        omega)
      obtain ⟨d, n, hd, hn, es, _⟩ := at_k q h v hh (by omega)
      have na := node_at_ok q h d n hd hh hn
      rw [es] at na
      have e1 := shl1 h (by omega)
      refine ⟨[some (true, r1), x1, some (false, PyData.int ((h : Nat))), some (false, PyData.str (kn q)), x4, x5, x6, none, none, none, none, none, none, none, none, none, some (false, PyData.int (j)), none, none, none, none], by simp [e_tUnl, e_ext, e_ext0, e_ext1, e_ext2, e_dix, e_dix1, e_dix2, e_look, e_rev, e_rev1, e_lr1, e_lr11, e_isE1, e_isE2, e_isE3, e_isE4, e_isE5, e_isE6, e_try, e_try1, e_try2, e_eqAS, e_neAS, e_eqAI, e_neAI, e_bind_ok, e_bind_exc, e_bind_stk, e_var, e_var1, e_var2, e_move, e_move1, e_move2, e_C, e_fin1, e_bin, e_bin1, e_bin2, e_chain, e_chain1, e_chain2, e_chain3, e_chain4, e_chain5, e_if, e_if1, e_if2, e_tv, e_tv1, e_notT, e_notT1, e_andT, e_andT1, e_andT2, e_orT, e_orT1, e_orT2, e_andV, e_andV1, e_andV2, e_orV, e_orV1, e_orV2, e_notV, e_notV1, e_aNil, e_aCons, e_aCons1, e_aCons2, e_star, e_star1, e_star2, e_star3, e_lst, e_lst1, e_tup, e_tup1, e_call, e_call1, e_slot, e_slot1, e_sb, e_sb0, e_sb1, e_sb2, e_sb3, e_bs, e_bs1, e_bs2, e_lenV, e_lenV1, e_un, e_un1, e_def, e_def1, e_def2, e_def3, e_fix0, e_fix1, e_fix2, e_def4, e_def0, e_def01, e_jNil, e_jVal, e_jVal1, e_j2, e_jIo, e_jIo1, e_itD0, e_itD1, e_itD2, e_itD3, e_itJ0, e_itJ1, e_itJ2, e_itP0, e_itP1, e_itP2, e_setMany0, e_setMany1, e_nodup0, e_nodup1, e_noPart, e_part, e_part1, e_slice, e_slice1, e_slice2, e_slice3, e_lstRg, e_lstRg1, e_lstRg2, e_iSeq, e_iSeq1, e_iSeq2, e_iEn, e_iEn1, e_iEn2, e_iR1, e_iR11, e_iR2, e_iR21, e_yes, e_lc, e_lc1, e_lc2, e_wipe0, e_wipe1, e_back0, e_back1, e_back2, e_noneOwn0, e_noneOwn1, e_noneOwn2, e_noneOwn3, e_noneOwn4, e_name, e_set, e_tNil, e_tCons, e_tCons1, e_tTup, e_seq, e_seq1, e_seq2, e_seq3, e_seq4, e_seq5, e_next, e_break, e_cont, e_expr, e_expr1, e_ret, e_ret1, e_sIf, e_sIf1, e_sIf2, e_asg, e_asg1, e_asg2, e_aug, e_aug0, e_aug1, e_aug2, e_aug3, e_par, e_par1, e_par2, e_app, e_app0, e_app1, e_app2, e_setIx, e_setIx0, e_setIx1, e_setIx2, e_setIx3, e_setIx4, e_match, e_match1, e_mCase, e_mAny, e_raise, e_for, e_body, e_body1, e_body2, e_body3, e_body4, e_body5, e_outs0, e_outs1, e_outs2, e_start0, e_start1, e_addI, e_addL, e_addI2, e_sub, e_cmp, e_eqI, e_neI, e_eqB, e_isN0, e_isN1, e_isN2, e_isN3, e_notN0, e_notN1, e_notN2, e_notN3, e_int, e_intB, e_max, e_min, e_neg, e_bits, e_lenL, e_lenT, e_lenS, e_ixL, e_ixT, e_ixS, e_at0, e_at1, e_at2, e_map, e_lstOf, e_lstOfS, e_seqOf, e_seqOfT, e_seqOfS, e_isiIB, e_isiII, e_isiTT, e_isiLL], .inl ⟨_, (nd d n, false), [some (true, r2), x1, some (false, PyData.int ((h : Nat))), some (false, PyData.str (kn q)), x4, x5, x6, none, none, none, none, none, none, none, none, none, some (false, PyData.int (j)), none, none, none, none], rfl, ?_, zs ++ [(d, n)], r2, by rw [List.map_append]; rfl, by simp [e_tUnl, e_ext, e_ext0, e_ext1, e_ext2, e_dix, e_dix1, e_dix2, e_look, e_rev, e_rev1, e_lr1, e_lr11, e_isE1, e_isE2, e_isE3, e_isE4, e_isE5, e_isE6, e_try, e_try1, e_try2, e_eqAS, e_neAS, e_eqAI, e_neAI, e_bind_ok, e_bind_exc, e_bind_stk, e_var, e_var1, e_var2, e_move, e_move1, e_move2, e_C, e_fin1, e_bin, e_bin1, e_bin2, e_chain, e_chain1, e_chain2, e_chain3, e_chain4, e_chain5, e_if, e_if1, e_if2, e_tv, e_tv1, e_notT, e_notT1, e_andT, e_andT1, e_andT2, e_orT, e_orT1, e_orT2, e_andV, e_andV1, e_andV2, e_orV, e_orV1, e_orV2, e_notV, e_notV1, e_aNil, e_aCons, e_aCons1, e_aCons2, e_star, e_star1, e_star2, e_star3, e_lst, e_lst1, e_tup, e_tup1, e_call, e_call1, e_slot, e_slot1, e_sb, e_sb0, e_sb1, e_sb2, e_sb3, e_bs, e_bs1, e_bs2, e_lenV, e_lenV1, e_un, e_un1, e_def, e_def1, e_def2, e_def3, e_fix0, e_fix1, e_fix2, e_def4, e_def0, e_def01, e_jNil, e_jVal, e_jVal1, e_j2, e_jIo, e_jIo1, e_itD0, e_itD1, e_itD2, e_itD3, e_itJ0, e_itJ1, e_itJ2, e_itP0, e_itP1, e_itP2, e_setMany0, e_setMany1, e_nodup0, e_nodup1, e_noPart, e_part, e_part1, e_slice, e_slice1, e_slice2, e_slice3, e_lstRg, e_lstRg1, e_lstRg2, e_iSeq, e_iSeq1, e_iSeq2, e_iEn, e_iEn1, e_iEn2, e_iR1, e_iR11, e_iR2, e_iR21, e_yes, e_lc, e_lc1, e_lc2, e_wipe0, e_wipe1, e_back0, e_back1, e_back2, e_noneOwn0, e_noneOwn1, e_noneOwn2, e_noneOwn3, e_noneOwn4, e_name, e_set, e_tNil, e_tCons, e_tCons1, e_tTup, e_seq, e_seq1, e_seq2, e_seq3, e_seq4, e_seq5, e_next, e_break, e_cont, e_expr, e_expr1, e_ret, e_ret1, e_sIf, e_sIf1, e_sIf2, e_asg, e_asg1, e_asg2, e_aug, e_aug0, e_aug1, e_aug2, e_aug3, e_par, e_par1, e_par2, e_app, e_app0, e_app1, e_app2, e_setIx, e_setIx0, e_setIx1, e_setIx2, e_setIx3, e_setIx4, e_match, e_match1, e_mCase, e_mAny, e_raise, e_for, e_body, e_body1, e_body2, e_body3, e_body4, e_body5, e_outs0, e_outs1, e_outs2, e_start0, e_start1, e_addI, e_addL, e_addI2, e_sub, e_cmp, e_eqI, e_neI, e_eqB, e_isN0, e_isN1, e_isN2, e_isN3, e_notN0, e_notN1, e_notN2, e_notN3, e_int, e_intB, e_max, e_min, e_neg, e_bits, e_lenL, e_lenT, e_lenS, e_ixL, e_ixT, e_ixS, e_at0, e_at1, e_at2, e_map, e_lstOf, e_lstOfS, e_seqOf, e_seqOfT, e_seqOfS, e_isiIB, e_isiII, e_isiTT, e_isiLL], ?_, by rw [List.length_append, k2]; rfl, b2⟩⟩
      · generalize nd d n = N at *
        generalize kn q = KQ at *
        generalize ((v : Nat) : Int) = V at *
        generalize hH : ((h : Nat) : Int) = HI at *
        generalize (2 : Int) ^ h = PW at *
        simp [ce_right_1, e_tUnl, e_ext, e_ext0, e_ext1, e_ext2, e_dix, e_dix1, e_dix2, e_look, e_rev, e_rev1, e_lr1, e_lr11, e_isE1, e_isE2, e_isE3, e_isE4, e_isE5, e_isE6, e_try, e_try1, e_try2, e_eqAS, e_neAS, e_eqAI, e_neAI, e_bind_ok, e_bind_exc, e_bind_stk, e_var, e_var1, e_var2, e_move, e_move1, e_move2, e_C, e_fin1, e_bin, e_bin1, e_bin2, e_chain, e_chain1, e_chain2, e_chain3, e_chain4, e_chain5, e_if, e_if1, e_if2, e_tv, e_tv1, e_notT, e_notT1, e_andT, e_andT1, e_andT2, e_orT, e_orT1, e_orT2, e_andV, e_andV1, e_andV2, e_orV, e_orV1, e_orV2, e_notV, e_notV1, e_aNil, e_aCons, e_aCons1, e_aCons2, e_star, e_star1, e_star2, e_star3, e_lst, e_lst1, e_tup, e_tup1, e_call, e_call1, e_slot, e_slot1, e_sb, e_sb0, e_sb1, e_sb2, e_sb3, e_bs, e_bs1, e_bs2, e_lenV, e_lenV1, e_un, e_un1, e_def, e_def1, e_def2, e_def3, e_fix0, e_fix1, e_fix2, e_def4, e_def0, e_def01, e_jNil, e_jVal, e_jVal1, e_j2, e_jIo, e_jIo1, e_itD0, e_itD1, e_itD2, e_itD3, e_itJ0, e_itJ1, e_itJ2, e_itP0, e_itP1, e_itP2, e_setMany0, e_setMany1, e_nodup0, e_nodup1, e_noPart, e_part, e_part1, e_slice, e_slice1, e_slice2, e_slice3, e_lstRg, e_lstRg1, e_lstRg2, e_iSeq, e_iSeq1, e_iSeq2, e_iEn, e_iEn1, e_iEn2, e_iR1, e_iR11, e_iR2, e_iR21, e_yes, e_lc, e_lc1, e_lc2, e_wipe0, e_wipe1, e_back0, e_back1, e_back2, e_noneOwn0, e_noneOwn1, e_noneOwn2, e_noneOwn3, e_noneOwn4, e_name, e_set, e_tNil, e_tCons, e_tCons1, e_tTup, e_seq, e_seq1, e_seq2, e_seq3, e_seq4, e_seq5, e_next, e_break, e_cont, e_expr, e_expr1, e_ret, e_ret1, e_sIf, e_sIf1, e_sIf2, e_asg, e_asg1, e_asg2, e_aug, e_aug0, e_aug1, e_aug2, e_aug3, e_par, e_par1, e_par2, e_app, e_app0, e_app1, e_app2, e_setIx, e_setIx0, e_setIx1, e_setIx2, e_setIx3, e_setIx4, e_match, e_match1, e_mCase, e_mAny, e_raise, e_for, e_body, e_body1, e_body2, e_body3, e_body4, e_body5, e_outs0, e_outs1, e_outs2, e_start0, e_start1, e_addI, e_addL, e_addI2, e_sub, e_cmp, e_eqI, e_neI, e_eqB, e_isN0, e_isN1, e_isN2, e_isN3, e_notN0, e_notN1, e_notN2, e_notN3, e_int, e_intB, e_max, e_min, e_neg, e_bits, e_lenL, e_lenT, e_lenS, e_ixL, e_ixT, e_ixS, e_at0, e_at1, e_at2, e_map, e_lstOf, e_lstOfS, e_seqOf, e_seqOfT, e_seqOfS, e_isiIB, e_isiII, e_isiTT, e_isiLL, e1, s1, na]
      · intro z hz
        rcases List.mem_append.mp hz with z1 | z1
        · exact k1 z z1
        · rw [List.mem_singleton.mp z1]
          exact ⟨by show d < 100; omega, hn⟩)
  have e9 : (rgN 0 9).length = 9 := rfl
  rw [e9] at k2 b'
  exact ⟨zs, r', f, ⟨k1, by omega⟩, b'⟩
end SM
namespace SM
open PySem PySem.Spec DL
open PyProof.Rows hiding St
theorem shr_nat (n k : Nat) : dShr (.int (n : Int)) (.int (k : Int)) = some (.int ((n / 2 ^ k : Nat) : Int), false) := by
  rw [dShr_ok (by omega)]
  simp
def bitsN (x : Nat) : Nat := if x = 0 then 0 else x.log2 + 1
theorem bits_nat (x : Nat) : Builtin.Int.intBits (x : Int) = bitsN x := by
  unfold Builtin.Int.intBits bitsN
  by_cases c : x = 0
  · simp [c]
  · have : ¬ ((x : Int) == 0) = true := by simp [c]
    rw [if_neg this, if_neg c]
    simp
theorem meeting_ok (d1 n1 d2 n2 : Nat) : m_meeting [nd d1 n1, nd d2 n2] = .ok (.tuple [.int ((min d1 d2 : Nat) - (bitsN (n1 / 2 ^ (d1 - min d1 d2) ^^^ n2 / 2 ^ (d2 - min d1 d2)) : Nat) : Int), .int ((n1 / 2 ^ (d1 - min d1 d2) / 2 ^ bitsN (n1 / 2 ^ (d1 - min d1 d2) ^^^ n2 / 2 ^ (d2 - min d1 d2)) : Nat) : Int)], false) [] := by
  have e0 : (if d2 < d1 then (d2 : Int) else d1) = ((min d1 d2 : Nat) : Int) := by
    split <;> omega
  generalize hD : min d1 d2 = D at *
  have e1 : dShr (.int (n1 : Int)) (.int ((d1 : Int) - (D : Int))) = some (.int ((n1 / 2 ^ (d1 - D) : Nat) : Int), false) := by
    rw [show (d1 : Int) - D = ((d1 - D : Nat) : Int) by omega, shr_nat]
  have e2 : dShr (.int (n2 : Int)) (.int ((d2 : Int) - (D : Int))) = some (.int ((n2 / 2 ^ (d2 - D) : Nat) : Int), false) := by
    rw [show (d2 : Int) - D = ((d2 - D : Nat) : Int) by omega, shr_nat]
  generalize n1 / 2 ^ (d1 - D) = x at *
  generalize n2 / 2 ^ (d2 - D) = y at *
  have e3 : dXor (.int (x : Int)) (.int (y : Int)) = some (.int ((x ^^^ y : Nat) : Int), false) := by
    show some (PyData.int (Builtin.bitXor _ _), false) = _
    rw [Bits.bitXor_pp (by omega) (by omega)]
    simp
  have e4 : dBits (.int ((x ^^^ y : Nat) : Int)) = some (.int ((bitsN (x ^^^ y) : Nat) : Int), false) := by
    show some (PyData.int (Builtin.Int.intBits _ : Nat), false) = _
    rw [bits_nat]
  generalize x ^^^ y = z at *
  have e5 := shr_nat x (bitsN z)
  simp only [nd]
  simp [m_meeting, b_meeting, e_tUnl, e_ext, e_ext0, e_ext1, e_ext2, e_dix, e_dix1, e_dix2, e_look, e_rev, e_rev1, e_lr1, e_lr11, e_isE1, e_isE2, e_isE3, e_isE4, e_isE5, e_isE6, e_try, e_try1, e_try2, e_eqAS, e_neAS, e_eqAI, e_neAI, e_bind_ok, e_bind_exc, e_bind_stk, e_var, e_var1, e_var2, e_move, e_move1, e_move2, e_C, e_fin1, e_bin, e_bin1, e_bin2, e_chain, e_chain1, e_chain2, e_chain3, e_chain4, e_chain5, e_if, e_if1, e_if2, e_tv, e_tv1, e_notT, e_notT1, e_andT, e_andT1, e_andT2, e_orT, e_orT1, e_orT2, e_andV, e_andV1, e_andV2, e_orV, e_orV1, e_orV2, e_notV, e_notV1, e_aNil, e_aCons, e_aCons1, e_aCons2, e_star, e_star1, e_star2, e_star3, e_lst, e_lst1, e_tup, e_tup1, e_call, e_call1, e_slot, e_slot1, e_sb, e_sb0, e_sb1, e_sb2, e_sb3, e_bs, e_bs1, e_bs2, e_lenV, e_lenV1, e_un, e_un1, e_def, e_def1, e_def2, e_def3, e_fix0, e_fix1, e_fix2, e_def4, e_def0, e_def01, e_jNil, e_jVal, e_jVal1, e_j2, e_jIo, e_jIo1, e_itD0, e_itD1, e_itD2, e_itD3, e_itJ0, e_itJ1, e_itJ2, e_itP0, e_itP1, e_itP2, e_setMany0, e_setMany1, e_nodup0, e_nodup1, e_noPart, e_part, e_part1, e_slice, e_slice1, e_slice2, e_slice3, e_lstRg, e_lstRg1, e_lstRg2, e_iSeq, e_iSeq1, e_iSeq2, e_iEn, e_iEn1, e_iEn2, e_iR1, e_iR11, e_iR2, e_iR21, e_yes, e_lc, e_lc1, e_lc2, e_wipe0, e_wipe1, e_back0, e_back1, e_back2, e_noneOwn0, e_noneOwn1, e_noneOwn2, e_noneOwn3, e_noneOwn4, e_name, e_set, e_tNil, e_tCons, e_tCons1, e_tTup, e_seq, e_seq1, e_seq2, e_seq3, e_seq4, e_seq5, e_next, e_break, e_cont, e_expr, e_expr1, e_ret, e_ret1, e_sIf, e_sIf1, e_sIf2, e_asg, e_asg1, e_asg2, e_aug, e_aug0, e_aug1, e_aug2, e_aug3, e_par, e_par1, e_par2, e_app, e_app0, e_app1, e_app2, e_setIx, e_setIx0, e_setIx1, e_setIx2, e_setIx3, e_setIx4, e_match, e_match1, e_mCase, e_mAny, e_raise, e_for, e_body, e_body1, e_body2, e_body3, e_body4, e_body5, e_outs0, e_outs1, e_outs2, e_start0, e_start1, e_addI, e_addL, e_addI2, e_sub, e_cmp, e_eqI, e_neI, e_eqB, e_isN0, e_isN1, e_isN2, e_isN3, e_notN0, e_notN1, e_notN2, e_notN3, e_int, e_intB, e_max, e_min, e_neg, e_bits, e_lenL, e_lenT, e_lenS, e_ixL, e_ixT, e_ixS, e_at0, e_at1, e_at2, e_map, e_lstOf, e_lstOfS, e_seqOf, e_seqOfT, e_seqOfS, e_isiIB, e_isiII, e_isiTT, e_isiLL, e0, e1, e2, e3, e4, e5, l2, -e_bits, -Int.natCast_ediv, -Int.natCast_pow]
theorem meet_ok (h d1 n1 d2 n2 : Nat) (hd1 : d1 < h) (hd2 : d2 < h) (hh : h ≤ 100) (h1 : n1 < 2 ^ d1) (h2 : n2 < 2 ^ d2) : ∃ M : Nat, M = bitsN (n1 / 2 ^ (d1 - min d1 d2) ^^^ n2 / 2 ^ (d2 - min d1 d2)) ∧ M ≤ min d1 d2 ∧ m_meet [.int h, nd d1 n1, nd d2 n2] = .ok (nd (min d1 d2 - M) (n1 / 2 ^ (d1 - min d1 d2) / 2 ^ M), false) [] := by
  have me := meeting_ok d1 n1 d2 n2
  have r1 := req_height h (by omega) hh
  have r2 := req_node h d1 n1 hd1 hh h1
  have r3 := req_node h d2 n2 hd2 hh h2
  have x1 : n1 / 2 ^ (d1 - min d1 d2) < 2 ^ min d1 d2 := Nat.div_lt_of_lt_mul (by rw [← Nat.pow_add, show d1 - min d1 d2 + min d1 d2 = d1 by omega]; exact h1)
  have x2 : n2 / 2 ^ (d2 - min d1 d2) < 2 ^ min d1 d2 := Nat.div_lt_of_lt_mul (by rw [← Nat.pow_add, show d2 - min d1 d2 + min d1 d2 = d2 by omega]; exact h2)
  have xl := Nat.xor_lt_two_pow x1 x2
  have ub : bitsN (n1 / 2 ^ (d1 - min d1 d2) ^^^ n2 / 2 ^ (d2 - min d1 d2)) ≤ min d1 d2 := by
    unfold bitsN
    split
    · omega
    · rename_i z
      have := (Nat.log2_lt z).mpr xl
      omega
  refine ⟨_, rfl, ub, ?_⟩
  have e : PyData.tuple [.int ((min d1 d2 : Nat) - (bitsN (n1 / 2 ^ (d1 - min d1 d2) ^^^ n2 / 2 ^ (d2 - min d1 d2)) : Nat) : Int), .int ((n1 / 2 ^ (d1 - min d1 d2) / 2 ^ bitsN (n1 / 2 ^ (d1 - min d1 d2) ^^^ n2 / 2 ^ (d2 - min d1 d2)) : Nat) : Int)] = nd (min d1 d2 - bitsN (n1 / 2 ^ (d1 - min d1 d2) ^^^ n2 / 2 ^ (d2 - min d1 d2))) (n1 / 2 ^ (d1 - min d1 d2) / 2 ^ bitsN (n1 / 2 ^ (d1 - min d1 d2) ^^^ n2 / 2 ^ (d2 - min d1 d2))) := by
    unfold nd
    rw [Int.natCast_sub ub]
  rw [e] at me
  generalize nd (min d1 d2 - bitsN (n1 / 2 ^ (d1 - min d1 d2) ^^^ n2 / 2 ^ (d2 - min d1 d2))) (n1 / 2 ^ (d1 - min d1 d2) / 2 ^ bitsN (n1 / 2 ^ (d1 - min d1 d2) ^^^ n2 / 2 ^ (d2 - min d1 d2))) = R at *
  generalize nd d1 n1 = N1 at *
  generalize nd d2 n2 = N2 at *
  simp [m_meet, b_meet, m_require_both, b_require_both, m_require_kin, b_require_kin, e_tUnl, e_ext, e_ext0, e_ext1, e_ext2, e_dix, e_dix1, e_dix2, e_look, e_rev, e_rev1, e_lr1, e_lr11, e_isE1, e_isE2, e_isE3, e_isE4, e_isE5, e_isE6, e_try, e_try1, e_try2, e_eqAS, e_neAS, e_eqAI, e_neAI, e_bind_ok, e_bind_exc, e_bind_stk, e_var, e_var1, e_var2, e_move, e_move1, e_move2, e_C, e_fin1, e_bin, e_bin1, e_bin2, e_chain, e_chain1, e_chain2, e_chain3, e_chain4, e_chain5, e_if, e_if1, e_if2, e_tv, e_tv1, e_notT, e_notT1, e_andT, e_andT1, e_andT2, e_orT, e_orT1, e_orT2, e_andV, e_andV1, e_andV2, e_orV, e_orV1, e_orV2, e_notV, e_notV1, e_aNil, e_aCons, e_aCons1, e_aCons2, e_star, e_star1, e_star2, e_star3, e_lst, e_lst1, e_tup, e_tup1, e_call, e_call1, e_slot, e_slot1, e_sb, e_sb0, e_sb1, e_sb2, e_sb3, e_bs, e_bs1, e_bs2, e_lenV, e_lenV1, e_un, e_un1, e_def, e_def1, e_def2, e_def3, e_fix0, e_fix1, e_fix2, e_def4, e_def0, e_def01, e_jNil, e_jVal, e_jVal1, e_j2, e_jIo, e_jIo1, e_itD0, e_itD1, e_itD2, e_itD3, e_itJ0, e_itJ1, e_itJ2, e_itP0, e_itP1, e_itP2, e_setMany0, e_setMany1, e_nodup0, e_nodup1, e_noPart, e_part, e_part1, e_slice, e_slice1, e_slice2, e_slice3, e_lstRg, e_lstRg1, e_lstRg2, e_iSeq, e_iSeq1, e_iSeq2, e_iEn, e_iEn1, e_iEn2, e_iR1, e_iR11, e_iR2, e_iR21, e_yes, e_lc, e_lc1, e_lc2, e_wipe0, e_wipe1, e_back0, e_back1, e_back2, e_noneOwn0, e_noneOwn1, e_noneOwn2, e_noneOwn3, e_noneOwn4, e_name, e_set, e_tNil, e_tCons, e_tCons1, e_tTup, e_seq, e_seq1, e_seq2, e_seq3, e_seq4, e_seq5, e_next, e_break, e_cont, e_expr, e_expr1, e_ret, e_ret1, e_sIf, e_sIf1, e_sIf2, e_asg, e_asg1, e_asg2, e_aug, e_aug0, e_aug1, e_aug2, e_aug3, e_par, e_par1, e_par2, e_app, e_app0, e_app1, e_app2, e_setIx, e_setIx0, e_setIx1, e_setIx2, e_setIx3, e_setIx4, e_match, e_match1, e_mCase, e_mAny, e_raise, e_for, e_body, e_body1, e_body2, e_body3, e_body4, e_body5, e_outs0, e_outs1, e_outs2, e_start0, e_start1, e_addI, e_addL, e_addI2, e_sub, e_cmp, e_eqI, e_neI, e_eqB, e_isN0, e_isN1, e_isN2, e_isN3, e_notN0, e_notN1, e_notN2, e_notN3, e_int, e_intB, e_max, e_min, e_neg, e_bits, e_lenL, e_lenT, e_lenS, e_ixL, e_ixT, e_ixS, e_at0, e_at1, e_at2, e_map, e_lstOf, e_lstOfS, e_seqOf, e_seqOfT, e_seqOfS, e_isiIB, e_isiII, e_isiTT, e_isiLL, r1, r2, r3, me]
end SM
namespace SM
open PySem PySem.Spec DL
open PyProof.Rows hiding St
theorem wayC_get (d n i : Nat) (h : i < (wayC d n).length) : (wayC d n)[i] = sgn (bt n (d - 1 - i)) := by
  have e : (wayC d n)[i]? = some (sgn (bt n (d - 1 - i))) := by
    have hi : i < d := by rw [wayC_len] at h; exact h
    show ((List.range d).map _)[i]? = _
    rw [List.getElem?_map, List.getElem?_range hi]
    rfl
  exact Option.some.inj ((List.getElem?_eq_getElem h).symm.trans e)
theorem wayC_take {d e : Nat} (n : Nat) (h : e ≤ d) : (wayC d n).take e = wayC e (n / 2 ^ (d - e)) := by
  refine List.ext_getElem (by rw [List.length_take, wayC_len, wayC_len]; omega) fun i h1 h2 => ?_
  rw [List.getElem_take, wayC_get, wayC_get, bt_div]
  rw [wayC_len] at h2
  rw [show d - e + (e - 1 - i) = d - 1 - i by omega]
theorem wayC_child (d n b : Nat) (hb : b < 2) : wayC (d + 1) (2 * n + b) = wayC d n ++ [sgn b] := by
  refine List.ext_getElem (by rw [List.length_append, wayC_len, wayC_len]; rfl) fun i h1 h2 => ?_
  rw [wayC_get]
  rw [wayC_len] at h1
  by_cases c : i < d
  · rw [List.getElem_append_left (by rw [wayC_len]; exact c), wayC_get]
    have e : bt n (d - 1 - i) = bt ((2 * n + b) / 2 ^ 1) (d - 1 - i) := by
      rw [show (2 * n + b) / 2 ^ 1 = n by omega]
    rw [e, bt_div, show 1 + (d - 1 - i) = d + 1 - 1 - i by omega]
  · have hi : i = d := by omega
    subst hi
    rw [List.getElem_append_right (by rw [wayC_len]; exact Nat.le_refl _)]
    simp only [wayC_len, Nat.sub_self, List.getElem_cons_zero]
    rw [show i + 1 - 1 - i = 0 by omega]
    unfold bt
    congr 1
    omega
theorem bitsN_lt (x : Nat) : x < 2 ^ bitsN x := by
  unfold bitsN
  by_cases c : x = 0
  · subst c; simp
  · rw [if_neg c]
    exact (Nat.log2_lt c).mp (by omega)
theorem xor_high (x y : Nat) : x / 2 ^ bitsN (x ^^^ y) = y / 2 ^ bitsN (x ^^^ y) := by
  have l := bitsN_lt (x ^^^ y)
  generalize bitsN (x ^^^ y) = M at *
  refine Nat.eq_of_testBit_eq fun i => ?_
  rw [Nat.testBit_div_two_pow, Nat.testBit_div_two_pow]
  have t : (x ^^^ y).testBit (i + M) = false := Nat.testBit_lt_two_pow (Nat.lt_of_lt_of_le l (Nat.pow_le_pow_right (by omega) (by omega)))
  rw [Nat.testBit_xor] at t
  cases hx : x.testBit (i + M) <;> cases hy : y.testBit (i + M) <;> simp_all
theorem xor_low (x y : Nat) (h : x ^^^ y ≠ 0) : bt x (bitsN (x ^^^ y) - 1) ≠ bt y (bitsN (x ^^^ y) - 1) := by
  have e : bitsN (x ^^^ y) - 1 = (x ^^^ y).log2 := by unfold bitsN; rw [if_neg h]; rfl
  rw [e]
  have t : (x ^^^ y).testBit (x ^^^ y).log2 = true := by
    rw [Nat.testBit_eq_decide_div_mod_eq]
    have a := Nat.log2_self_le h
    have b : x ^^^ y < 2 ^ ((x ^^^ y).log2 + 1) := (Nat.log2_lt h).mp (by omega)
    have p := Nat.pow_pos (a := 2) (n := (x ^^^ y).log2) (by omega)
    have q : (x ^^^ y) / 2 ^ (x ^^^ y).log2 = 1 := by
      rw [Nat.pow_succ] at b
      generalize 2 ^ (x ^^^ y).log2 = Q at *
      generalize x ^^^ y = z at *
      have l1 : 1 ≤ z / Q := (Nat.le_div_iff_mul_le p).mpr (by omega)
      have l2 : z / Q < 2 := (Nat.div_lt_iff_lt_mul p).mpr (by omega)
      omega
    rw [q]; rfl
  rw [Nat.testBit_xor] at t
  intro c
  unfold bt at c
  rw [Nat.testBit_eq_decide_div_mod_eq, Nat.testBit_eq_decide_div_mod_eq, c] at t
  simp at t
end SM
namespace SM
open PySem PySem.Spec DL
open PyProof.Rows hiding St
def beg (d n : Nat) : Str := ⟨(wayC d n).toArray⟩
theorem beg_tl (d n : Nat) : TL.tl (beg d n) = wayC d n := rfl
theorem beg_len (d n : Nat) : (beg d n).length = d := by
  have : (beg d n).length = (wayC d n).length := rfl
  rw [this, wayC_len]
theorem wS_pos {d : Nat} (n : Nat) (h : 0 < d) : wS d n = beg d n := by
  unfold wS beg wdC
  rw [if_neg (by omega)]
theorem wS_dash {d : Nat} (n : Nat) (h : 0 < d) : ¬ wS d n = z_h336d5ebc := fun e => by
  rw [wS_pos n h] at e
  have e : TL.tl (beg d n) = TL.tl z_h336d5ebc := by rw [e]
  rw [beg_tl] at e
  have m : 45 ∈ wayC d n := by rw [e]; show 45 ∈ [45]; simp
  have := wayC_mem m
  omega
theorem begin_ok (d n : Nat) : m__law_begin [.str (wS d n)] = .ok (.str (beg d n), false) [] := by
  by_cases c : d = 0
  · subst c
    have e : wS 0 n = z_h336d5ebc := rfl
    have e2 : beg 0 n = z_ := rfl
    rw [e, e2]
    kernel_rfl
  · have h := wS_dash n (by omega : 0 < d)
    rw [wS_pos n (by omega)] at h ⊢
    generalize beg d n = B at *
    simp [m__law_begin, b__law_begin, e_tUnl, e_ext, e_ext0, e_ext1, e_ext2, e_dix, e_dix1, e_dix2, e_look, e_rev, e_rev1, e_lr1, e_lr11, e_isE1, e_isE2, e_isE3, e_isE4, e_isE5, e_isE6, e_try, e_try1, e_try2, e_eqAS, e_neAS, e_eqAI, e_neAI, e_bind_ok, e_bind_exc, e_bind_stk, e_var, e_var1, e_var2, e_move, e_move1, e_move2, e_C, e_fin1, e_bin, e_bin1, e_bin2, e_chain, e_chain1, e_chain2, e_chain3, e_chain4, e_chain5, e_if, e_if1, e_if2, e_tv, e_tv1, e_notT, e_notT1, e_andT, e_andT1, e_andT2, e_orT, e_orT1, e_orT2, e_andV, e_andV1, e_andV2, e_orV, e_orV1, e_orV2, e_notV, e_notV1, e_aNil, e_aCons, e_aCons1, e_aCons2, e_star, e_star1, e_star2, e_star3, e_lst, e_lst1, e_tup, e_tup1, e_call, e_call1, e_slot, e_slot1, e_sb, e_sb0, e_sb1, e_sb2, e_sb3, e_bs, e_bs1, e_bs2, e_lenV, e_lenV1, e_un, e_un1, e_def, e_def1, e_def2, e_def3, e_fix0, e_fix1, e_fix2, e_def4, e_def0, e_def01, e_jNil, e_jVal, e_jVal1, e_j2, e_jIo, e_jIo1, e_itD0, e_itD1, e_itD2, e_itD3, e_itJ0, e_itJ1, e_itJ2, e_itP0, e_itP1, e_itP2, e_setMany0, e_setMany1, e_nodup0, e_nodup1, e_noPart, e_part, e_part1, e_slice, e_slice1, e_slice2, e_slice3, e_lstRg, e_lstRg1, e_lstRg2, e_iSeq, e_iSeq1, e_iSeq2, e_iEn, e_iEn1, e_iEn2, e_iR1, e_iR11, e_iR2, e_iR21, e_yes, e_lc, e_lc1, e_lc2, e_wipe0, e_wipe1, e_back0, e_back1, e_back2, e_noneOwn0, e_noneOwn1, e_noneOwn2, e_noneOwn3, e_noneOwn4, e_name, e_set, e_tNil, e_tCons, e_tCons1, e_tTup, e_seq, e_seq1, e_seq2, e_seq3, e_seq4, e_seq5, e_next, e_break, e_cont, e_expr, e_expr1, e_ret, e_ret1, e_sIf, e_sIf1, e_sIf2, e_asg, e_asg1, e_asg2, e_aug, e_aug0, e_aug1, e_aug2, e_aug3, e_par, e_par1, e_par2, e_app, e_app0, e_app1, e_app2, e_setIx, e_setIx0, e_setIx1, e_setIx2, e_setIx3, e_setIx4, e_match, e_match1, e_mCase, e_mAny, e_raise, e_for, e_body, e_body1, e_body2, e_body3, e_body4, e_body5, e_outs0, e_outs1, e_outs2, e_start0, e_start1, e_addI, e_addL, e_addI2, e_sub, e_cmp, e_eqI, e_neI, e_eqB, e_isN0, e_isN1, e_isN2, e_isN3, e_notN0, e_notN1, e_notN2, e_notN3, e_int, e_intB, e_max, e_min, e_neg, e_bits, e_lenL, e_lenT, e_lenS, e_ixL, e_ixT, e_ixS, e_at0, e_at1, e_at2, e_map, e_lstOf, e_lstOfS, e_seqOf, e_seqOfT, e_seqOfS, e_isiIB, e_isiII, e_isiTT, e_isiLL, h]
theorem strOk_of {x : Str} (h : ∀ c ∈ x.cps.toList, c < 0x110000) : PyData.strOk x = true := by
  unfold PyData.strOk
  rw [Array.all_eq_true']
  intro c hc
  exact decide_eq_true (h c (Array.mem_def.mp hc))
theorem beg_strOk (d n : Nat) : PyData.strOk (beg d n) = true := strOk_of fun c hc => by
  have hc : c ∈ wayC d n := hc
  have := wayC_mem hc
  omega
theorem canLay_strs : ∀ ys : List Str, (∀ y ∈ ys, PyData.strOk y = true) → PyData.canLayAll0 (ys.map PyData.str) = true ∧ PyData.depthAll (ys.map PyData.str) ≤ 1
  | [], _ => ⟨by simp [PyData.canLayAll0], by simp [PyData.depthAll]⟩
  | p :: r, h => by
    obtain ⟨h1, h2⟩ := canLay_strs r fun y hy => h y (by simp [hy])
    refine ⟨by simp [PyData.canLayAll0, PyData.canLay0]; exact ⟨h p (by simp), h1⟩, ?_⟩
    simp [PyData.depthAll, PyData.depth]
    omega
theorem ne_strs (ys : List Str) (h : ∀ y ∈ ys, PyData.strOk y = true) : dNeA (.list (ys.map PyData.str)) (.list (ys.map PyData.str)) = some (.bool false, false) := by
  obtain ⟨h1, h2⟩ := canLay_strs ys h
  refine dNe_self ?_
  simp [SeqAt.shaped, PyData.canLay0, PyData.depth, h1]
  omega
theorem slice_take (z : Str) (k : Nat) (hk : k ≤ z.length) (hz : z.length ≤ LINE) : dSlice (.str z) none (some (k : Int)) = some (.str ⟨(z.cps.toList.take k).toArray⟩, false) := by
  show (if z.length ≤ LINE then some (PyData.str (L2.cutS z none (some (k : Int))), false) else none) = _
  rw [if_pos hz]
  unfold L2.cutS
  rw [HT.sIx_none, HT.sIx_nat, Nat.min_eq_left hk]
  rfl
theorem slice_neg1 (z : Str) (hk : 1 ≤ z.length) (hz : z.length ≤ LINE) : dSlice (.str z) none (some (-1)) = some (.str ⟨(z.cps.toList.take (z.length - 1)).toArray⟩, false) := by
  show (if z.length ≤ LINE then some (PyData.str (L2.cutS z none (some (-1))), false) else none) = _
  rw [if_pos hz]
  unfold L2.cutS
  have e : HT.sIx z.length z.length (some (-1)) = z.length - 1 := by
    show (if (-1 : Int) < 0 then ((-1 : Int) + (z.length : Int)).toNat else min (-1 : Int).toNat z.length) = _
    rw [if_pos (by omega)]
    omega
  rw [HT.sIx_none, e]
  rfl
theorem beg_take {d e : Nat} (n : Nat) (h : e ≤ d) (hd : d ≤ 1000) : dSlice (.str (beg d n)) none (some (e : Int)) = some (.str (beg e (n / 2 ^ (d - e))), false) := by
  rw [slice_take _ _ (by rw [beg_len]; exact h) (by rw [beg_len]; exact lE d hd)]
  have : (beg d n).cps.toList.take e = wayC e (n / 2 ^ (d - e)) := wayC_take n h
  rw [this]
  rfl
theorem wS_cut (d n : Nat) (hd : d + 1 ≤ 1000) : dSlice (.str (wS (d + 1) n)) none (some (-1)) = some (.str (beg d (n / 2)), false) := by
  rw [wS_pos n (by omega), slice_neg1 _ (by rw [beg_len]; omega) (by rw [beg_len]; exact lE _ hd), beg_len]
  have : (beg (d + 1) n).cps.toList.take (d + 1 - 1) = wayC d (n / 2 ^ (d + 1 - d)) := wayC_take n (by omega)
  rw [this, show d + 1 - d = 1 by omega, Nat.pow_one]
  rfl
theorem beg_at {d : Nat} (n k : Nat) (h : k < d) (hd : d ≤ 1000) : dIx (.str (beg d n)) (.int (k : Int)) = some (.str ⟨#[sgn (bt n (d - 1 - k))]⟩, false) := by
  show (if (beg d n).length ≤ LINE then (L2.atI (beg d n).cps.toList (k : Int)).map fun c => (PyData.str ⟨#[c]⟩, false) else none) = _
  rw [if_pos (by rw [beg_len]; exact lE d hd)]
  have e : (beg d n).cps.toList[k]? = some (sgn (bt n (d - 1 - k))) := by
    have l : k < (wayC d n).length := by rw [wayC_len]; exact h
    show (wayC d n)[k]? = _
    rw [List.getElem?_eq_getElem l, wayC_get]
  rw [at_nat e]
  rfl
theorem sgn_inj {a b : Nat} (ha : a = 0 ∨ a = 1) (hb : b = 0 ∨ b = 1) (e : (⟨#[sgn a]⟩ : Str) = ⟨#[sgn b]⟩) : a = b := by
  have e : [sgn a] = [sgn b] := congrArg TL.tl e
  rcases ha with rfl | rfl <;> rcases hb with rfl | rfl <;> first | rfl | (exact absurd e (by decide))
theorem beg_child (d n b : Nat) (hb : b < 2) (hd : d + 1 ≤ 1000) : dAdd (.str (beg d n)) (.str ⟨#[sgn b]⟩) = some (.str (beg (d + 1) (2 * n + b)), false) := by
  show (if (beg d n).length + 1 ≤ LINE then some (PyData.str (beg d n ++ ⟨#[sgn b]⟩), false) else none) = _
  rw [if_pos (by rw [beg_len]; exact lE _ (by omega))]
  have e : beg d n ++ (⟨#[sgn b]⟩ : Str) = beg (d + 1) (2 * n + b) := by
    refine TL.ext_tl ?_
    rw [TL.tl_append, beg_tl, beg_tl, wayC_child d n b hb]
  rw [e]
end SM
namespace SM
open PySem PySem.Spec DL
open PyProof.Rows hiding St
theorem req_kin (h d n : Nat) (hd : d < h) (hh : h ≤ 100) (hn : n < 2 ^ d) : m_require_kin [.int (h : Int), nd d n] = .ok (.none, false) [] := by
  have a := req_height h (by omega) hh
  have b := req_node h d n hd hh hn
  simp [m_require_kin, b_require_kin, e_tUnl, e_ext, e_ext0, e_ext1, e_ext2, e_dix, e_dix1, e_dix2, e_look, e_rev, e_rev1, e_lr1, e_lr11, e_isE1, e_isE2, e_isE3, e_isE4, e_isE5, e_isE6, e_try, e_try1, e_try2, e_eqAS, e_neAS, e_eqAI, e_neAI, e_bind_ok, e_bind_exc, e_bind_stk, e_var, e_var1, e_var2, e_move, e_move1, e_move2, e_C, e_fin1, e_bin, e_bin1, e_bin2, e_chain, e_chain1, e_chain2, e_chain3, e_chain4, e_chain5, e_if, e_if1, e_if2, e_tv, e_tv1, e_notT, e_notT1, e_andT, e_andT1, e_andT2, e_orT, e_orT1, e_orT2, e_andV, e_andV1, e_andV2, e_orV, e_orV1, e_orV2, e_notV, e_notV1, e_aNil, e_aCons, e_aCons1, e_aCons2, e_star, e_star1, e_star2, e_star3, e_lst, e_lst1, e_tup, e_tup1, e_call, e_call1, e_slot, e_slot1, e_sb, e_sb0, e_sb1, e_sb2, e_sb3, e_bs, e_bs1, e_bs2, e_lenV, e_lenV1, e_un, e_un1, e_def, e_def1, e_def2, e_def3, e_fix0, e_fix1, e_fix2, e_def4, e_def0, e_def01, e_jNil, e_jVal, e_jVal1, e_j2, e_jIo, e_jIo1, e_itD0, e_itD1, e_itD2, e_itD3, e_itJ0, e_itJ1, e_itJ2, e_itP0, e_itP1, e_itP2, e_setMany0, e_setMany1, e_nodup0, e_nodup1, e_noPart, e_part, e_part1, e_slice, e_slice1, e_slice2, e_slice3, e_lstRg, e_lstRg1, e_lstRg2, e_iSeq, e_iSeq1, e_iSeq2, e_iEn, e_iEn1, e_iEn2, e_iR1, e_iR11, e_iR2, e_iR21, e_yes, e_lc, e_lc1, e_lc2, e_wipe0, e_wipe1, e_back0, e_back1, e_back2, e_noneOwn0, e_noneOwn1, e_noneOwn2, e_noneOwn3, e_noneOwn4, e_name, e_set, e_tNil, e_tCons, e_tCons1, e_tTup, e_seq, e_seq1, e_seq2, e_seq3, e_seq4, e_seq5, e_next, e_break, e_cont, e_expr, e_expr1, e_ret, e_ret1, e_sIf, e_sIf1, e_sIf2, e_asg, e_asg1, e_asg2, e_aug, e_aug0, e_aug1, e_aug2, e_aug3, e_par, e_par1, e_par2, e_app, e_app0, e_app1, e_app2, e_setIx, e_setIx0, e_setIx1, e_setIx2, e_setIx3, e_setIx4, e_match, e_match1, e_mCase, e_mAny, e_raise, e_for, e_body, e_body1, e_body2, e_body3, e_body4, e_body5, e_outs0, e_outs1, e_outs2, e_start0, e_start1, e_addI, e_addL, e_addI2, e_sub, e_cmp, e_eqI, e_neI, e_eqB, e_isN0, e_isN1, e_isN2, e_isN3, e_notN0, e_notN1, e_notN2, e_notN3, e_int, e_intB, e_max, e_min, e_neg, e_bits, e_lenL, e_lenT, e_lenS, e_ixL, e_ixT, e_ixS, e_at0, e_at1, e_at2, e_map, e_lstOf, e_lstOfS, e_seqOf, e_seqOfT, e_seqOfS, e_isiIB, e_isiII, e_isiTT, e_isiLL, a, b]
theorem children_none (h n : Nat) (hh : h + 1 ≤ 100) (hn : n < 2 ^ h) : m_children [.int ((h + 1 : Nat) : Int), nd h n] = .ok (.none, false) [] := by
  have e := req_kin (h + 1) h n (by omega) hh hn
  simp only [nd] at e ⊢
  simp [m_children, b_children, e_tUnl, e_ext, e_ext0, e_ext1, e_ext2, e_dix, e_dix1, e_dix2, e_look, e_rev, e_rev1, e_lr1, e_lr11, e_isE1, e_isE2, e_isE3, e_isE4, e_isE5, e_isE6, e_try, e_try1, e_try2, e_eqAS, e_neAS, e_eqAI, e_neAI, e_bind_ok, e_bind_exc, e_bind_stk, e_var, e_var1, e_var2, e_move, e_move1, e_move2, e_C, e_fin1, e_bin, e_bin1, e_bin2, e_chain, e_chain1, e_chain2, e_chain3, e_chain4, e_chain5, e_if, e_if1, e_if2, e_tv, e_tv1, e_notT, e_notT1, e_andT, e_andT1, e_andT2, e_orT, e_orT1, e_orT2, e_andV, e_andV1, e_andV2, e_orV, e_orV1, e_orV2, e_notV, e_notV1, e_aNil, e_aCons, e_aCons1, e_aCons2, e_star, e_star1, e_star2, e_star3, e_lst, e_lst1, e_tup, e_tup1, e_call, e_call1, e_slot, e_slot1, e_sb, e_sb0, e_sb1, e_sb2, e_sb3, e_bs, e_bs1, e_bs2, e_lenV, e_lenV1, e_un, e_un1, e_def, e_def1, e_def2, e_def3, e_fix0, e_fix1, e_fix2, e_def4, e_def0, e_def01, e_jNil, e_jVal, e_jVal1, e_j2, e_jIo, e_jIo1, e_itD0, e_itD1, e_itD2, e_itD3, e_itJ0, e_itJ1, e_itJ2, e_itP0, e_itP1, e_itP2, e_setMany0, e_setMany1, e_nodup0, e_nodup1, e_noPart, e_part, e_part1, e_slice, e_slice1, e_slice2, e_slice3, e_lstRg, e_lstRg1, e_lstRg2, e_iSeq, e_iSeq1, e_iSeq2, e_iEn, e_iEn1, e_iEn2, e_iR1, e_iR11, e_iR2, e_iR21, e_yes, e_lc, e_lc1, e_lc2, e_wipe0, e_wipe1, e_back0, e_back1, e_back2, e_noneOwn0, e_noneOwn1, e_noneOwn2, e_noneOwn3, e_noneOwn4, e_name, e_set, e_tNil, e_tCons, e_tCons1, e_tTup, e_seq, e_seq1, e_seq2, e_seq3, e_seq4, e_seq5, e_next, e_break, e_cont, e_expr, e_expr1, e_ret, e_ret1, e_sIf, e_sIf1, e_sIf2, e_asg, e_asg1, e_asg2, e_aug, e_aug0, e_aug1, e_aug2, e_aug3, e_par, e_par1, e_par2, e_app, e_app0, e_app1, e_app2, e_setIx, e_setIx0, e_setIx1, e_setIx2, e_setIx3, e_setIx4, e_match, e_match1, e_mCase, e_mAny, e_raise, e_for, e_body, e_body1, e_body2, e_body3, e_body4, e_body5, e_outs0, e_outs1, e_outs2, e_start0, e_start1, e_addI, e_addL, e_addI2, e_sub, e_cmp, e_eqI, e_neI, e_eqB, e_isN0, e_isN1, e_isN2, e_isN3, e_notN0, e_notN1, e_notN2, e_notN3, e_int, e_intB, e_max, e_min, e_neg, e_bits, e_lenL, e_lenT, e_lenS, e_ixL, e_ixT, e_ixS, e_at0, e_at1, e_at2, e_map, e_lstOf, e_lstOfS, e_seqOf, e_seqOfT, e_seqOfS, e_isiIB, e_isiII, e_isiTT, e_isiLL] at e ⊢
  simp [e, e_tUnl, e_ext, e_ext0, e_ext1, e_ext2, e_dix, e_dix1, e_dix2, e_look, e_rev, e_rev1, e_lr1, e_lr11, e_isE1, e_isE2, e_isE3, e_isE4, e_isE5, e_isE6, e_try, e_try1, e_try2, e_eqAS, e_neAS, e_eqAI, e_neAI, e_bind_ok, e_bind_exc, e_bind_stk, e_var, e_var1, e_var2, e_move, e_move1, e_move2, e_C, e_fin1, e_bin, e_bin1, e_bin2, e_chain, e_chain1, e_chain2, e_chain3, e_chain4, e_chain5, e_if, e_if1, e_if2, e_tv, e_tv1, e_notT, e_notT1, e_andT, e_andT1, e_andT2, e_orT, e_orT1, e_orT2, e_andV, e_andV1, e_andV2, e_orV, e_orV1, e_orV2, e_notV, e_notV1, e_aNil, e_aCons, e_aCons1, e_aCons2, e_star, e_star1, e_star2, e_star3, e_lst, e_lst1, e_tup, e_tup1, e_call, e_call1, e_slot, e_slot1, e_sb, e_sb0, e_sb1, e_sb2, e_sb3, e_bs, e_bs1, e_bs2, e_lenV, e_lenV1, e_un, e_un1, e_def, e_def1, e_def2, e_def3, e_fix0, e_fix1, e_fix2, e_def4, e_def0, e_def01, e_jNil, e_jVal, e_jVal1, e_j2, e_jIo, e_jIo1, e_itD0, e_itD1, e_itD2, e_itD3, e_itJ0, e_itJ1, e_itJ2, e_itP0, e_itP1, e_itP2, e_setMany0, e_setMany1, e_nodup0, e_nodup1, e_noPart, e_part, e_part1, e_slice, e_slice1, e_slice2, e_slice3, e_lstRg, e_lstRg1, e_lstRg2, e_iSeq, e_iSeq1, e_iSeq2, e_iEn, e_iEn1, e_iEn2, e_iR1, e_iR11, e_iR2, e_iR21, e_yes, e_lc, e_lc1, e_lc2, e_wipe0, e_wipe1, e_back0, e_back1, e_back2, e_noneOwn0, e_noneOwn1, e_noneOwn2, e_noneOwn3, e_noneOwn4, e_name, e_set, e_tNil, e_tCons, e_tCons1, e_tTup, e_seq, e_seq1, e_seq2, e_seq3, e_seq4, e_seq5, e_next, e_break, e_cont, e_expr, e_expr1, e_ret, e_ret1, e_sIf, e_sIf1, e_sIf2, e_asg, e_asg1, e_asg2, e_aug, e_aug0, e_aug1, e_aug2, e_aug3, e_par, e_par1, e_par2, e_app, e_app0, e_app1, e_app2, e_setIx, e_setIx0, e_setIx1, e_setIx2, e_setIx3, e_setIx4, e_match, e_match1, e_mCase, e_mAny, e_raise, e_for, e_body, e_body1, e_body2, e_body3, e_body4, e_body5, e_outs0, e_outs1, e_outs2, e_start0, e_start1, e_addI, e_addL, e_addI2, e_sub, e_cmp, e_eqI, e_neI, e_eqB, e_isN0, e_isN1, e_isN2, e_isN3, e_notN0, e_notN1, e_notN2, e_notN3, e_int, e_intB, e_max, e_min, e_neg, e_bits, e_lenL, e_lenT, e_lenS, e_ixL, e_ixT, e_ixS, e_at0, e_at1, e_at2, e_map, e_lstOf, e_lstOfS, e_seqOf, e_seqOfT, e_seqOfS, e_isiIB, e_isiII, e_isiTT, e_isiLL]
theorem mul2 (n : Nat) (h : n < 2 ^ 200) : dMul (.int 2) (.int (n : Int)) = some (.int (2 * (n : Int)), false) := dMul_ok 2 200 (by decide) (by omega) (by decide)
theorem children_ok (h d n : Nat) (hd : d + 1 < h) (hh : h ≤ 100) (hn : n < 2 ^ d) : m_children [.int (h : Int), nd d n] = .ok (.tuple [nd (d + 1) (2 * n), nd (d + 1) (2 * n + 1)], false) [] := by
  have e := req_kin h d n (by omega) hh hn
  have hn2 : n < 2 ^ 200 := Nat.lt_of_lt_of_le hn (Nat.pow_le_pow_right (by omega) (by omega))
  have f := mul2 n hn2
  have c : ((d : Int) + 1 == (h : Int)) = false := by simp; omega
  simp only [nd] at e ⊢
  simp [m_children, b_children, e_tUnl, e_ext, e_ext0, e_ext1, e_ext2, e_dix, e_dix1, e_dix2, e_look, e_rev, e_rev1, e_lr1, e_lr11, e_isE1, e_isE2, e_isE3, e_isE4, e_isE5, e_isE6, e_try, e_try1, e_try2, e_eqAS, e_neAS, e_eqAI, e_neAI, e_bind_ok, e_bind_exc, e_bind_stk, e_var, e_var1, e_var2, e_move, e_move1, e_move2, e_C, e_fin1, e_bin, e_bin1, e_bin2, e_chain, e_chain1, e_chain2, e_chain3, e_chain4, e_chain5, e_if, e_if1, e_if2, e_tv, e_tv1, e_notT, e_notT1, e_andT, e_andT1, e_andT2, e_orT, e_orT1, e_orT2, e_andV, e_andV1, e_andV2, e_orV, e_orV1, e_orV2, e_notV, e_notV1, e_aNil, e_aCons, e_aCons1, e_aCons2, e_star, e_star1, e_star2, e_star3, e_lst, e_lst1, e_tup, e_tup1, e_call, e_call1, e_slot, e_slot1, e_sb, e_sb0, e_sb1, e_sb2, e_sb3, e_bs, e_bs1, e_bs2, e_lenV, e_lenV1, e_un, e_un1, e_def, e_def1, e_def2, e_def3, e_fix0, e_fix1, e_fix2, e_def4, e_def0, e_def01, e_jNil, e_jVal, e_jVal1, e_j2, e_jIo, e_jIo1, e_itD0, e_itD1, e_itD2, e_itD3, e_itJ0, e_itJ1, e_itJ2, e_itP0, e_itP1, e_itP2, e_setMany0, e_setMany1, e_nodup0, e_nodup1, e_noPart, e_part, e_part1, e_slice, e_slice1, e_slice2, e_slice3, e_lstRg, e_lstRg1, e_lstRg2, e_iSeq, e_iSeq1, e_iSeq2, e_iEn, e_iEn1, e_iEn2, e_iR1, e_iR11, e_iR2, e_iR21, e_yes, e_lc, e_lc1, e_lc2, e_wipe0, e_wipe1, e_back0, e_back1, e_back2, e_noneOwn0, e_noneOwn1, e_noneOwn2, e_noneOwn3, e_noneOwn4, e_name, e_set, e_tNil, e_tCons, e_tCons1, e_tTup, e_seq, e_seq1, e_seq2, e_seq3, e_seq4, e_seq5, e_next, e_break, e_cont, e_expr, e_expr1, e_ret, e_ret1, e_sIf, e_sIf1, e_sIf2, e_asg, e_asg1, e_asg2, e_aug, e_aug0, e_aug1, e_aug2, e_aug3, e_par, e_par1, e_par2, e_app, e_app0, e_app1, e_app2, e_setIx, e_setIx0, e_setIx1, e_setIx2, e_setIx3, e_setIx4, e_match, e_match1, e_mCase, e_mAny, e_raise, e_for, e_body, e_body1, e_body2, e_body3, e_body4, e_body5, e_outs0, e_outs1, e_outs2, e_start0, e_start1, e_addI, e_addL, e_addI2, e_sub, e_cmp, e_eqI, e_neI, e_eqB, e_isN0, e_isN1, e_isN2, e_isN3, e_notN0, e_notN1, e_notN2, e_notN3, e_int, e_intB, e_max, e_min, e_neg, e_bits, e_lenL, e_lenT, e_lenS, e_ixL, e_ixT, e_ixS, e_at0, e_at1, e_at2, e_map, e_lstOf, e_lstOfS, e_seqOf, e_seqOfT, e_seqOfS, e_isiIB, e_isiII, e_isiTT, e_isiLL] at e ⊢
  simp [e, e_tUnl, e_ext, e_ext0, e_ext1, e_ext2, e_dix, e_dix1, e_dix2, e_look, e_rev, e_rev1, e_lr1, e_lr11, e_isE1, e_isE2, e_isE3, e_isE4, e_isE5, e_isE6, e_try, e_try1, e_try2, e_eqAS, e_neAS, e_eqAI, e_neAI, e_bind_ok, e_bind_exc, e_bind_stk, e_var, e_var1, e_var2, e_move, e_move1, e_move2, e_C, e_fin1, e_bin, e_bin1, e_bin2, e_chain, e_chain1, e_chain2, e_chain3, e_chain4, e_chain5, e_if, e_if1, e_if2, e_tv, e_tv1, e_notT, e_notT1, e_andT, e_andT1, e_andT2, e_orT, e_orT1, e_orT2, e_andV, e_andV1, e_andV2, e_orV, e_orV1, e_orV2, e_notV, e_notV1, e_aNil, e_aCons, e_aCons1, e_aCons2, e_star, e_star1, e_star2, e_star3, e_lst, e_lst1, e_tup, e_tup1, e_call, e_call1, e_slot, e_slot1, e_sb, e_sb0, e_sb1, e_sb2, e_sb3, e_bs, e_bs1, e_bs2, e_lenV, e_lenV1, e_un, e_un1, e_def, e_def1, e_def2, e_def3, e_fix0, e_fix1, e_fix2, e_def4, e_def0, e_def01, e_jNil, e_jVal, e_jVal1, e_j2, e_jIo, e_jIo1, e_itD0, e_itD1, e_itD2, e_itD3, e_itJ0, e_itJ1, e_itJ2, e_itP0, e_itP1, e_itP2, e_setMany0, e_setMany1, e_nodup0, e_nodup1, e_noPart, e_part, e_part1, e_slice, e_slice1, e_slice2, e_slice3, e_lstRg, e_lstRg1, e_lstRg2, e_iSeq, e_iSeq1, e_iSeq2, e_iEn, e_iEn1, e_iEn2, e_iR1, e_iR11, e_iR2, e_iR21, e_yes, e_lc, e_lc1, e_lc2, e_wipe0, e_wipe1, e_back0, e_back1, e_back2, e_noneOwn0, e_noneOwn1, e_noneOwn2, e_noneOwn3, e_noneOwn4, e_name, e_set, e_tNil, e_tCons, e_tCons1, e_tTup, e_seq, e_seq1, e_seq2, e_seq3, e_seq4, e_seq5, e_next, e_break, e_cont, e_expr, e_expr1, e_ret, e_ret1, e_sIf, e_sIf1, e_sIf2, e_asg, e_asg1, e_asg2, e_aug, e_aug0, e_aug1, e_aug2, e_aug3, e_par, e_par1, e_par2, e_app, e_app0, e_app1, e_app2, e_setIx, e_setIx0, e_setIx1, e_setIx2, e_setIx3, e_setIx4, e_match, e_match1, e_mCase, e_mAny, e_raise, e_for, e_body, e_body1, e_body2, e_body3, e_body4, e_body5, e_outs0, e_outs1, e_outs2, e_start0, e_start1, e_addI, e_addL, e_addI2, e_sub, e_cmp, e_eqI, e_neI, e_eqB, e_isN0, e_isN1, e_isN2, e_isN3, e_notN0, e_notN1, e_notN2, e_notN3, e_int, e_intB, e_max, e_min, e_neg, e_bits, e_lenL, e_lenT, e_lenS, e_ixL, e_ixT, e_ixS, e_at0, e_at1, e_at2, e_map, e_lstOf, e_lstOfS, e_seqOf, e_seqOfT, e_seqOfS, e_isiIB, e_isiII, e_isiTT, e_isiLL, c, f, l2]
theorem parent_of_ok (d n : Nat) : m_parent_of [nd (d + 1) n] = .ok (nd d (n / 2), false) [] := by
  have e : dShr (.int (n : Int)) (.int 1) = some (.int ((n / 2 : Nat) : Int), false) := by simpa using shr_nat n 1
  simp [m_parent_of, b_parent_of, nd, e_tUnl, e_ext, e_ext0, e_ext1, e_ext2, e_dix, e_dix1, e_dix2, e_look, e_rev, e_rev1, e_lr1, e_lr11, e_isE1, e_isE2, e_isE3, e_isE4, e_isE5, e_isE6, e_try, e_try1, e_try2, e_eqAS, e_neAS, e_eqAI, e_neAI, e_bind_ok, e_bind_exc, e_bind_stk, e_var, e_var1, e_var2, e_move, e_move1, e_move2, e_C, e_fin1, e_bin, e_bin1, e_bin2, e_chain, e_chain1, e_chain2, e_chain3, e_chain4, e_chain5, e_if, e_if1, e_if2, e_tv, e_tv1, e_notT, e_notT1, e_andT, e_andT1, e_andT2, e_orT, e_orT1, e_orT2, e_andV, e_andV1, e_andV2, e_orV, e_orV1, e_orV2, e_notV, e_notV1, e_aNil, e_aCons, e_aCons1, e_aCons2, e_star, e_star1, e_star2, e_star3, e_lst, e_lst1, e_tup, e_tup1, e_call, e_call1, e_slot, e_slot1, e_sb, e_sb0, e_sb1, e_sb2, e_sb3, e_bs, e_bs1, e_bs2, e_lenV, e_lenV1, e_un, e_un1, e_def, e_def1, e_def2, e_def3, e_fix0, e_fix1, e_fix2, e_def4, e_def0, e_def01, e_jNil, e_jVal, e_jVal1, e_j2, e_jIo, e_jIo1, e_itD0, e_itD1, e_itD2, e_itD3, e_itJ0, e_itJ1, e_itJ2, e_itP0, e_itP1, e_itP2, e_setMany0, e_setMany1, e_nodup0, e_nodup1, e_noPart, e_part, e_part1, e_slice, e_slice1, e_slice2, e_slice3, e_lstRg, e_lstRg1, e_lstRg2, e_iSeq, e_iSeq1, e_iSeq2, e_iEn, e_iEn1, e_iEn2, e_iR1, e_iR11, e_iR2, e_iR21, e_yes, e_lc, e_lc1, e_lc2, e_wipe0, e_wipe1, e_back0, e_back1, e_back2, e_noneOwn0, e_noneOwn1, e_noneOwn2, e_noneOwn3, e_noneOwn4, e_name, e_set, e_tNil, e_tCons, e_tCons1, e_tTup, e_seq, e_seq1, e_seq2, e_seq3, e_seq4, e_seq5, e_next, e_break, e_cont, e_expr, e_expr1, e_ret, e_ret1, e_sIf, e_sIf1, e_sIf2, e_asg, e_asg1, e_asg2, e_aug, e_aug0, e_aug1, e_aug2, e_aug3, e_par, e_par1, e_par2, e_app, e_app0, e_app1, e_app2, e_setIx, e_setIx0, e_setIx1, e_setIx2, e_setIx3, e_setIx4, e_match, e_match1, e_mCase, e_mAny, e_raise, e_for, e_body, e_body1, e_body2, e_body3, e_body4, e_body5, e_outs0, e_outs1, e_outs2, e_start0, e_start1, e_addI, e_addL, e_addI2, e_sub, e_cmp, e_eqI, e_neI, e_eqB, e_isN0, e_isN1, e_isN2, e_isN3, e_notN0, e_notN1, e_notN2, e_notN3, e_int, e_intB, e_max, e_min, e_neg, e_bits, e_lenL, e_lenT, e_lenS, e_ixL, e_ixT, e_ixS, e_at0, e_at1, e_at2, e_map, e_lstOf, e_lstOfS, e_seqOf, e_seqOfT, e_seqOfS, e_isiIB, e_isiII, e_isiTT, e_isiLL, e, l2]
theorem parent_ok (h d n : Nat) (hd : d + 1 < h) (hh : h ≤ 100) (hn : n < 2 ^ (d + 1)) : m_parent [.int h, nd (d + 1) n] = .ok (nd d (n / 2), false) [] := by
  have e := req_kin h (d + 1) n hd hh hn
  have f := parent_of_ok d n
  have g : (0 : Int) < (d : Int) + 1 := by omega
  simp only [nd] at e f ⊢
  simp [m_parent, b_parent, e_tUnl, e_ext, e_ext0, e_ext1, e_ext2, e_dix, e_dix1, e_dix2, e_look, e_rev, e_rev1, e_lr1, e_lr11, e_isE1, e_isE2, e_isE3, e_isE4, e_isE5, e_isE6, e_try, e_try1, e_try2, e_eqAS, e_neAS, e_eqAI, e_neAI, e_bind_ok, e_bind_exc, e_bind_stk, e_var, e_var1, e_var2, e_move, e_move1, e_move2, e_C, e_fin1, e_bin, e_bin1, e_bin2, e_chain, e_chain1, e_chain2, e_chain3, e_chain4, e_chain5, e_if, e_if1, e_if2, e_tv, e_tv1, e_notT, e_notT1, e_andT, e_andT1, e_andT2, e_orT, e_orT1, e_orT2, e_andV, e_andV1, e_andV2, e_orV, e_orV1, e_orV2, e_notV, e_notV1, e_aNil, e_aCons, e_aCons1, e_aCons2, e_star, e_star1, e_star2, e_star3, e_lst, e_lst1, e_tup, e_tup1, e_call, e_call1, e_slot, e_slot1, e_sb, e_sb0, e_sb1, e_sb2, e_sb3, e_bs, e_bs1, e_bs2, e_lenV, e_lenV1, e_un, e_un1, e_def, e_def1, e_def2, e_def3, e_fix0, e_fix1, e_fix2, e_def4, e_def0, e_def01, e_jNil, e_jVal, e_jVal1, e_j2, e_jIo, e_jIo1, e_itD0, e_itD1, e_itD2, e_itD3, e_itJ0, e_itJ1, e_itJ2, e_itP0, e_itP1, e_itP2, e_setMany0, e_setMany1, e_nodup0, e_nodup1, e_noPart, e_part, e_part1, e_slice, e_slice1, e_slice2, e_slice3, e_lstRg, e_lstRg1, e_lstRg2, e_iSeq, e_iSeq1, e_iSeq2, e_iEn, e_iEn1, e_iEn2, e_iR1, e_iR11, e_iR2, e_iR21, e_yes, e_lc, e_lc1, e_lc2, e_wipe0, e_wipe1, e_back0, e_back1, e_back2, e_noneOwn0, e_noneOwn1, e_noneOwn2, e_noneOwn3, e_noneOwn4, e_name, e_set, e_tNil, e_tCons, e_tCons1, e_tTup, e_seq, e_seq1, e_seq2, e_seq3, e_seq4, e_seq5, e_next, e_break, e_cont, e_expr, e_expr1, e_ret, e_ret1, e_sIf, e_sIf1, e_sIf2, e_asg, e_asg1, e_asg2, e_aug, e_aug0, e_aug1, e_aug2, e_aug3, e_par, e_par1, e_par2, e_app, e_app0, e_app1, e_app2, e_setIx, e_setIx0, e_setIx1, e_setIx2, e_setIx3, e_setIx4, e_match, e_match1, e_mCase, e_mAny, e_raise, e_for, e_body, e_body1, e_body2, e_body3, e_body4, e_body5, e_outs0, e_outs1, e_outs2, e_start0, e_start1, e_addI, e_addL, e_addI2, e_sub, e_cmp, e_eqI, e_neI, e_eqB, e_isN0, e_isN1, e_isN2, e_isN3, e_notN0, e_notN1, e_notN2, e_notN3, e_int, e_intB, e_max, e_min, e_neg, e_bits, e_lenL, e_lenT, e_lenS, e_ixL, e_ixT, e_ixS, e_at0, e_at1, e_at2, e_map, e_lstOf, e_lstOfS, e_seqOf, e_seqOfT, e_seqOfS, e_isiIB, e_isiII, e_isiTT, e_isiLL, g] at e f ⊢
  simp [e, f, e_tUnl, e_ext, e_ext0, e_ext1, e_ext2, e_dix, e_dix1, e_dix2, e_look, e_rev, e_rev1, e_lr1, e_lr11, e_isE1, e_isE2, e_isE3, e_isE4, e_isE5, e_isE6, e_try, e_try1, e_try2, e_eqAS, e_neAS, e_eqAI, e_neAI, e_bind_ok, e_bind_exc, e_bind_stk, e_var, e_var1, e_var2, e_move, e_move1, e_move2, e_C, e_fin1, e_bin, e_bin1, e_bin2, e_chain, e_chain1, e_chain2, e_chain3, e_chain4, e_chain5, e_if, e_if1, e_if2, e_tv, e_tv1, e_notT, e_notT1, e_andT, e_andT1, e_andT2, e_orT, e_orT1, e_orT2, e_andV, e_andV1, e_andV2, e_orV, e_orV1, e_orV2, e_notV, e_notV1, e_aNil, e_aCons, e_aCons1, e_aCons2, e_star, e_star1, e_star2, e_star3, e_lst, e_lst1, e_tup, e_tup1, e_call, e_call1, e_slot, e_slot1, e_sb, e_sb0, e_sb1, e_sb2, e_sb3, e_bs, e_bs1, e_bs2, e_lenV, e_lenV1, e_un, e_un1, e_def, e_def1, e_def2, e_def3, e_fix0, e_fix1, e_fix2, e_def4, e_def0, e_def01, e_jNil, e_jVal, e_jVal1, e_j2, e_jIo, e_jIo1, e_itD0, e_itD1, e_itD2, e_itD3, e_itJ0, e_itJ1, e_itJ2, e_itP0, e_itP1, e_itP2, e_setMany0, e_setMany1, e_nodup0, e_nodup1, e_noPart, e_part, e_part1, e_slice, e_slice1, e_slice2, e_slice3, e_lstRg, e_lstRg1, e_lstRg2, e_iSeq, e_iSeq1, e_iSeq2, e_iEn, e_iEn1, e_iEn2, e_iR1, e_iR11, e_iR2, e_iR21, e_yes, e_lc, e_lc1, e_lc2, e_wipe0, e_wipe1, e_back0, e_back1, e_back2, e_noneOwn0, e_noneOwn1, e_noneOwn2, e_noneOwn3, e_noneOwn4, e_name, e_set, e_tNil, e_tCons, e_tCons1, e_tTup, e_seq, e_seq1, e_seq2, e_seq3, e_seq4, e_seq5, e_next, e_break, e_cont, e_expr, e_expr1, e_ret, e_ret1, e_sIf, e_sIf1, e_sIf2, e_asg, e_asg1, e_asg2, e_aug, e_aug0, e_aug1, e_aug2, e_aug3, e_par, e_par1, e_par2, e_app, e_app0, e_app1, e_app2, e_setIx, e_setIx0, e_setIx1, e_setIx2, e_setIx3, e_setIx4, e_match, e_match1, e_mCase, e_mAny, e_raise, e_for, e_body, e_body1, e_body2, e_body3, e_body4, e_body5, e_outs0, e_outs1, e_outs2, e_start0, e_start1, e_addI, e_addL, e_addI2, e_sub, e_cmp, e_eqI, e_neI, e_eqB, e_isN0, e_isN1, e_isN2, e_isN3, e_notN0, e_notN1, e_notN2, e_notN3, e_int, e_intB, e_max, e_min, e_neg, e_bits, e_lenL, e_lenT, e_lenS, e_ixL, e_ixT, e_ixS, e_at0, e_at1, e_at2, e_map, e_lstOf, e_lstOfS, e_seqOf, e_seqOfT, e_seqOfS, e_isiIB, e_isiII, e_isiTT, e_isiLL]
theorem parent_root (h : Nat) (hd : 0 < h) (hh : h ≤ 100) : m_parent [.int h, nd 0 0] = .ok (.none, false) [] := by
  have e := req_kin h 0 0 hd hh (by decide)
  simp [m_parent, b_parent, e_tUnl, e_ext, e_ext0, e_ext1, e_ext2, e_dix, e_dix1, e_dix2, e_look, e_rev, e_rev1, e_lr1, e_lr11, e_isE1, e_isE2, e_isE3, e_isE4, e_isE5, e_isE6, e_try, e_try1, e_try2, e_eqAS, e_neAS, e_eqAI, e_neAI, e_bind_ok, e_bind_exc, e_bind_stk, e_var, e_var1, e_var2, e_move, e_move1, e_move2, e_C, e_fin1, e_bin, e_bin1, e_bin2, e_chain, e_chain1, e_chain2, e_chain3, e_chain4, e_chain5, e_if, e_if1, e_if2, e_tv, e_tv1, e_notT, e_notT1, e_andT, e_andT1, e_andT2, e_orT, e_orT1, e_orT2, e_andV, e_andV1, e_andV2, e_orV, e_orV1, e_orV2, e_notV, e_notV1, e_aNil, e_aCons, e_aCons1, e_aCons2, e_star, e_star1, e_star2, e_star3, e_lst, e_lst1, e_tup, e_tup1, e_call, e_call1, e_slot, e_slot1, e_sb, e_sb0, e_sb1, e_sb2, e_sb3, e_bs, e_bs1, e_bs2, e_lenV, e_lenV1, e_un, e_un1, e_def, e_def1, e_def2, e_def3, e_fix0, e_fix1, e_fix2, e_def4, e_def0, e_def01, e_jNil, e_jVal, e_jVal1, e_j2, e_jIo, e_jIo1, e_itD0, e_itD1, e_itD2, e_itD3, e_itJ0, e_itJ1, e_itJ2, e_itP0, e_itP1, e_itP2, e_setMany0, e_setMany1, e_nodup0, e_nodup1, e_noPart, e_part, e_part1, e_slice, e_slice1, e_slice2, e_slice3, e_lstRg, e_lstRg1, e_lstRg2, e_iSeq, e_iSeq1, e_iSeq2, e_iEn, e_iEn1, e_iEn2, e_iR1, e_iR11, e_iR2, e_iR21, e_yes, e_lc, e_lc1, e_lc2, e_wipe0, e_wipe1, e_back0, e_back1, e_back2, e_noneOwn0, e_noneOwn1, e_noneOwn2, e_noneOwn3, e_noneOwn4, e_name, e_set, e_tNil, e_tCons, e_tCons1, e_tTup, e_seq, e_seq1, e_seq2, e_seq3, e_seq4, e_seq5, e_next, e_break, e_cont, e_expr, e_expr1, e_ret, e_ret1, e_sIf, e_sIf1, e_sIf2, e_asg, e_asg1, e_asg2, e_aug, e_aug0, e_aug1, e_aug2, e_aug3, e_par, e_par1, e_par2, e_app, e_app0, e_app1, e_app2, e_setIx, e_setIx0, e_setIx1, e_setIx2, e_setIx3, e_setIx4, e_match, e_match1, e_mCase, e_mAny, e_raise, e_for, e_body, e_body1, e_body2, e_body3, e_body4, e_body5, e_outs0, e_outs1, e_outs2, e_start0, e_start1, e_addI, e_addL, e_addI2, e_sub, e_cmp, e_eqI, e_neI, e_eqB, e_isN0, e_isN1, e_isN2, e_isN3, e_notN0, e_notN1, e_notN2, e_notN3, e_int, e_intB, e_max, e_min, e_neg, e_bits, e_lenL, e_lenT, e_lenS, e_ixL, e_ixT, e_ixS, e_at0, e_at1, e_at2, e_map, e_lstOf, e_lstOfS, e_seqOf, e_seqOfT, e_seqOfS, e_isiIB, e_isiII, e_isiTT, e_isiLL, e, nd_ix0]
end SM
namespace SM
open PySem PySem.Spec DL
open PyProof.Rows hiding St
theorem place_of_ok (q : Kd) (h d n : Nat) (hd : d < h) (hh : h ≤ 100) (hn : n < 2 ^ d) : m_place_of [.str (kn q), .int h, nd d n] = .ok (.int (sp q h d n : Nat), false) [] := by
  have h1 := req_tree q h (by omega) hh
  have h2 := req_node h d n hd hh hn
  have h3 := spot_k q h d n hd hh
  simp [m_place_of, b_place_of, e_tUnl, e_ext, e_ext0, e_ext1, e_ext2, e_dix, e_dix1, e_dix2, e_look, e_rev, e_rev1, e_lr1, e_lr11, e_isE1, e_isE2, e_isE3, e_isE4, e_isE5, e_isE6, e_try, e_try1, e_try2, e_eqAS, e_neAS, e_eqAI, e_neAI, e_bind_ok, e_bind_exc, e_bind_stk, e_var, e_var1, e_var2, e_move, e_move1, e_move2, e_C, e_fin1, e_bin, e_bin1, e_bin2, e_chain, e_chain1, e_chain2, e_chain3, e_chain4, e_chain5, e_if, e_if1, e_if2, e_tv, e_tv1, e_notT, e_notT1, e_andT, e_andT1, e_andT2, e_orT, e_orT1, e_orT2, e_andV, e_andV1, e_andV2, e_orV, e_orV1, e_orV2, e_notV, e_notV1, e_aNil, e_aCons, e_aCons1, e_aCons2, e_star, e_star1, e_star2, e_star3, e_lst, e_lst1, e_tup, e_tup1, e_call, e_call1, e_slot, e_slot1, e_sb, e_sb0, e_sb1, e_sb2, e_sb3, e_bs, e_bs1, e_bs2, e_lenV, e_lenV1, e_un, e_un1, e_def, e_def1, e_def2, e_def3, e_fix0, e_fix1, e_fix2, e_def4, e_def0, e_def01, e_jNil, e_jVal, e_jVal1, e_j2, e_jIo, e_jIo1, e_itD0, e_itD1, e_itD2, e_itD3, e_itJ0, e_itJ1, e_itJ2, e_itP0, e_itP1, e_itP2, e_setMany0, e_setMany1, e_nodup0, e_nodup1, e_noPart, e_part, e_part1, e_slice, e_slice1, e_slice2, e_slice3, e_lstRg, e_lstRg1, e_lstRg2, e_iSeq, e_iSeq1, e_iSeq2, e_iEn, e_iEn1, e_iEn2, e_iR1, e_iR11, e_iR2, e_iR21, e_yes, e_lc, e_lc1, e_lc2, e_wipe0, e_wipe1, e_back0, e_back1, e_back2, e_noneOwn0, e_noneOwn1, e_noneOwn2, e_noneOwn3, e_noneOwn4, e_name, e_set, e_tNil, e_tCons, e_tCons1, e_tTup, e_seq, e_seq1, e_seq2, e_seq3, e_seq4, e_seq5, e_next, e_break, e_cont, e_expr, e_expr1, e_ret, e_ret1, e_sIf, e_sIf1, e_sIf2, e_asg, e_asg1, e_asg2, e_aug, e_aug0, e_aug1, e_aug2, e_aug3, e_par, e_par1, e_par2, e_app, e_app0, e_app1, e_app2, e_setIx, e_setIx0, e_setIx1, e_setIx2, e_setIx3, e_setIx4, e_match, e_match1, e_mCase, e_mAny, e_raise, e_for, e_body, e_body1, e_body2, e_body3, e_body4, e_body5, e_outs0, e_outs1, e_outs2, e_start0, e_start1, e_addI, e_addL, e_addI2, e_sub, e_cmp, e_eqI, e_neI, e_eqB, e_isN0, e_isN1, e_isN2, e_isN3, e_notN0, e_notN1, e_notN2, e_notN3, e_int, e_intB, e_max, e_min, e_neg, e_bits, e_lenL, e_lenT, e_lenS, e_ixL, e_ixT, e_ixS, e_at0, e_at1, e_at2, e_map, e_lstOf, e_lstOfS, e_seqOf, e_seqOfT, e_seqOfS, e_isiIB, e_isiII, e_isiTT, e_isiLL, h1, h2, h3]
end SM
namespace SM
open PySem PySem.Spec DL
open PyProof.Rows hiding St
def rA : Sl → SV := (sPar [0] 2 3 (gBin dAdd (gC (.int 1)) (gDef m__law_pick [0] (gjIo 0 (gjVal (gVar 1) gjNil)))) (gBin dIx (gDef0 m__law_kinds) (gDef m__law_pick [0] (gjIo 0 (gjVal (gC (.int 7)) gjNil)))))
def rB : Sl → SV := (sPar [0] 4 5 (gDef m__law_node [0] (gjIo 0 (gjVal (gVar 2) gjNil))) (gDef m__law_node [0] (gjIo 0 (gjVal (gVar 2) gjNil))))
def rC : Sl → SV := (sAsg (gLst (gaCons (gDef m__law_way [] (gjVal (gVar 4) gjNil)) (gaCons (gDef m__law_way [] (gjVal (gVar 5) gjNil)) (gaCons (gLst (gaCons (gVar 4) (gaCons (gVar 5) gaNil))) (gaCons (gLst (gaCons (gVar 5) (gaCons (gVar 4) gaNil))) (gaCons (gLst gaNil) (gaCons (gLst (gaCons (gVar 4) gaNil)) (gaCons (gRev (gDef m__law_way [] (gjVal (gVar 4) gjNil))) gaNil)))))))) (gtName [0] 6))
def rD : Sl → SV := (sAppend 6 (gLc [16] (giRg1 (gaCons (gC (.int 9)) gaNil)) (gtName [0] 16) gYes ce_right_1))
def rE : Sl → SV := (sAsg (gLc [8] (giSeq (gVar 6)) (gtName [0] 8) gYes ce_right_2) (gtName [0] 7))
def rF : Sl → SV := (sFor (giZip (gVar 6) (gVar 7)) (gtTup (gtCons (gtName [0] 8) (gtCons (gtName [0] 9) gtNil))) lb_right_1)
def rG : Sl → SV := (sPar [0] 10 11 (gDef m_children [] (gjVal (gVar 2) (gjVal (gVar 4) gjNil))) (gDef m_parent [] (gjVal (gVar 2) (gjVal (gVar 4) gjNil))))
def rH : Sl → SV := (sAsg (gLc [18] (giStr (gC (.str z_LR))) (gtName [0] 18) gYes ce_right_5) (gtName [0] 12))
def rI : Sl → SV := (sIf (gAndT (gTv (gBin dIsN (gVar 10) (gC .none))) (gTv (gBin dNeA (gLc [8] (giSeq (gVar 10)) (gtName [0] 8) gYes ce_right_6) (gVar 12)))) (sRet (gC (.bool false))) sNext)
def rJ : Sl → SV := (sIf (gAndT (gTv (gBin dIsN (gVar 11) (gC .none))) (gTv (gBin dNeA (gDef m__law_begin [] (gjVal (gDef m_show_node [] (gjVal (gVar 11) gjNil)) gjNil)) (gSlice (gDef m_show_node [] (gjVal (gVar 4) gjNil)) gNoPart (gPart (gUn dNeg (gC (.int 1)))))))) (sRet (gC (.bool false))) sNext)
def rK : Sl → SV := (sAsg (gDef m__law_begin [] (gjVal (gDef m_show_node [] (gjVal (gDef m_meet [] (gjVal (gVar 2) (gjVal (gVar 4) (gjVal (gVar 5) gjNil)))) gjNil)) gjNil)) (gtName [0] 13))
def rL : Sl → SV := (sAsg (gLst (gaCons (gDef m__law_begin [] (gjVal (gDef m_show_node [] (gjVal (gVar 4) gjNil)) gjNil)) (gaCons (gDef m__law_begin [] (gjVal (gDef m_show_node [] (gjVal (gVar 5) gjNil)) gjNil)) gaNil))) (gtName [0] 14))
def rM : Sl → SV := (sIf (gTv (gBin dNeA (gLc [19] (giSeq (gVar 14)) (gtName [0] 19) gYes ce_right_7) (gBin dMul (gLst (gaCons (gVar 13) gaNil)) (gC (.int 2))))) (sRet (gC (.bool false))) sNext)
def rN : Sl → SV := (sIf (gAndT (gTv (gBin dGt (gCall dMin2 (gaCons (gCall dLen (gaCons (gSlotBin dIx 14 (gC (.int 0))) gaNil)) (gaCons (gCall dLen (gaCons (gSlotBin dIx 14 (gC (.int 1))) gaNil)) gaNil))) (gLenV 13))) (gTv (gBin dEqA (gBin dIx (gSlotBin dIx 14 (gC (.int 0))) (gLenV 13)) (gBin dIx (gSlotBin dIx 14 (gC (.int 1))) (gLenV 13))))) (sRet (gC (.bool false))) sNext)
def rO : Sl → SV := (sAsg (gLc [20] (giSeq (gDef m_read_nodes [] (gjVal (gSlotBin dIx 7 (gC (.int 2))) gjNil))) (gtName [0] 20) gYes ce_right_8) (gtName [0] 15))
def rP : Sl → SV := (sRet (gBin dEqA (gVar 15) (gLc [20] (giSeq (gTup (gaCons (gVar 4) (gaCons (gVar 5) gaNil)))) (gtName [0] 20) gYes ce_right_9)))
theorem b__law_right_eq : b__law_right = (sSeq rA (sSeq rB (sSeq rC (sSeq rD (sSeq rE (sSeq rF (sSeq rG (sSeq rH (sSeq rI (sSeq rJ (sSeq rK (sSeq rL (sSeq rM (sSeq rN (sSeq rO rP))))))))))))))) := rfl
section
variable {x0 x1 x3 x5 x6 x7 x8 x9 x10 x11 x12 x13 : Option (Bool × D)} {h d n : Nat}
/-- the children, or none -/
inductive Ch (h d n : Nat) : D → Prop
  | no : d + 1 = h → Ch h d n .none
  | yes : d + 1 < h → Ch h d n (.tuple [nd (d + 1) (2 * n), nd (d + 1) (2 * n + 1)])
inductive Pa : Nat → Nat → D → Prop
  | no (n : Nat) : Pa 0 n .none
  | yes (d n : Nat) : Pa (d + 1) n (nd d (n / 2))
theorem rG_ok (hd : d < h) (hh : h ≤ 100) (hn : n < 2 ^ d) : ∃ c p, Ch h d n c ∧ Pa d n p ∧
    rG [x0, x1, some (false, PyData.int ((h : Nat))), x3, some (false, nd d n), x5, x6, x7, x8, x9, none, none, none, none, none, none, none, none, none, none, none] = .ok .nx [x0, x1, some (false, PyData.int ((h : Nat))), x3, some (false, nd d n), x5, x6, x7, x8, x9, some (false, c), some (false, p), none, none, none, none, none, none, none, none, none] := by
  obtain ⟨c, hc, ec⟩ : ∃ c, Ch h d n c ∧ m_children [.int (h : Int), nd d n] = .ok (c, false) [] := by
    by_cases e : d + 1 = h
    · subst e
      exact ⟨_, .no rfl, children_none d n hh hn⟩
    · exact ⟨_, .yes (by omega), children_ok h d n (by omega) hh hn⟩
  obtain ⟨p, hp, ep⟩ : ∃ p, Pa d n p ∧ m_parent [.int (h : Int), nd d n] = .ok (p, false) [] := by
    cases d with
    | zero =>
      have : n = 0 := by omega
      subst this
      exact ⟨_, .no 0, parent_root h (by omega) hh⟩
    | succ d => exact ⟨_, .yes d n, parent_ok h d n hd hh hn⟩
  refine ⟨c, p, hc, hp, ?_⟩
  generalize nd d n = N at *
  simp [rG, e_tUnl, e_ext, e_ext0, e_ext1, e_ext2, e_dix, e_dix1, e_dix2, e_look, e_rev, e_rev1, e_lr1, e_lr11, e_isE1, e_isE2, e_isE3, e_isE4, e_isE5, e_isE6, e_try, e_try1, e_try2, e_eqAS, e_neAS, e_eqAI, e_neAI, e_bind_ok, e_bind_exc, e_bind_stk, e_var, e_var1, e_var2, e_move, e_move1, e_move2, e_C, e_fin1, e_bin, e_bin1, e_bin2, e_chain, e_chain1, e_chain2, e_chain3, e_chain4, e_chain5, e_if, e_if1, e_if2, e_tv, e_tv1, e_notT, e_notT1, e_andT, e_andT1, e_andT2, e_orT, e_orT1, e_orT2, e_andV, e_andV1, e_andV2, e_orV, e_orV1, e_orV2, e_notV, e_notV1, e_aNil, e_aCons, e_aCons1, e_aCons2, e_star, e_star1, e_star2, e_star3, e_lst, e_lst1, e_tup, e_tup1, e_call, e_call1, e_slot, e_slot1, e_sb, e_sb0, e_sb1, e_sb2, e_sb3, e_bs, e_bs1, e_bs2, e_lenV, e_lenV1, e_un, e_un1, e_def, e_def1, e_def2, e_def3, e_fix0, e_fix1, e_fix2, e_def4, e_def0, e_def01, e_jNil, e_jVal, e_jVal1, e_j2, e_jIo, e_jIo1, e_itD0, e_itD1, e_itD2, e_itD3, e_itJ0, e_itJ1, e_itJ2, e_itP0, e_itP1, e_itP2, e_setMany0, e_setMany1, e_nodup0, e_nodup1, e_noPart, e_part, e_part1, e_slice, e_slice1, e_slice2, e_slice3, e_lstRg, e_lstRg1, e_lstRg2, e_iSeq, e_iSeq1, e_iSeq2, e_iEn, e_iEn1, e_iEn2, e_iR1, e_iR11, e_iR2, e_iR21, e_yes, e_lc, e_lc1, e_lc2, e_wipe0, e_wipe1, e_back0, e_back1, e_back2, e_noneOwn0, e_noneOwn1, e_noneOwn2, e_noneOwn3, e_noneOwn4, e_name, e_set, e_tNil, e_tCons, e_tCons1, e_tTup, e_seq, e_seq1, e_seq2, e_seq3, e_seq4, e_seq5, e_next, e_break, e_cont, e_expr, e_expr1, e_ret, e_ret1, e_sIf, e_sIf1, e_sIf2, e_asg, e_asg1, e_asg2, e_aug, e_aug0, e_aug1, e_aug2, e_aug3, e_par, e_par1, e_par2, e_app, e_app0, e_app1, e_app2, e_setIx, e_setIx0, e_setIx1, e_setIx2, e_setIx3, e_setIx4, e_match, e_match1, e_mCase, e_mAny, e_raise, e_for, e_body, e_body1, e_body2, e_body3, e_body4, e_body5, e_outs0, e_outs1, e_outs2, e_start0, e_start1, e_addI, e_addL, e_addI2, e_sub, e_cmp, e_eqI, e_neI, e_eqB, e_isN0, e_isN1, e_isN2, e_isN3, e_notN0, e_notN1, e_notN2, e_notN3, e_int, e_intB, e_max, e_min, e_neg, e_bits, e_lenL, e_lenT, e_lenS, e_ixL, e_ixT, e_ixS, e_at0, e_at1, e_at2, e_map, e_lstOf, e_lstOfS, e_seqOf, e_seqOfT, e_seqOfS, e_isiIB, e_isiII, e_isiTT, e_isiLL, ec, ep]
theorem str_LR (δ : Sl) : giStr (gC (.str z_LR)) δ = .ok [.str ⟨#[sgn 0]⟩, .str ⟨#[sgn 1]⟩] δ := by
  unfold giStr
  rw [e_C, e_bind_ok]
  rfl
theorem rH_ok (hd : d + 1 ≤ 100) (hn : n < 2 ^ d) (x2 : Option (Bool × D)) :
    rH [x0, x1, x2, x3, some (false, nd d n), x5, x6, x7, x8, x9, x10, x11, none, none, none, none, none, none, none, none, none] = .ok .nx [x0, x1, x2, x3, some (false, nd d n), x5, x6, x7, x8, x9, x10, x11, some (true, .list [.str (beg (d + 1) (2 * n)), .str (beg (d + 1) (2 * n + 1))]), none, none, none, none, none, none, none, none] := by
  have sn := show_node_ok d n (by omega) hn
  have bg := begin_ok d n
  have c0 := beg_child d n 0 (by omega) (by omega)
  have c1 := beg_child d n 1 (by omega) (by omega)
  have l2 := l2
  have sL := str_LR
  rw [Nat.add_zero] at c0
  generalize (⟨#[sgn 0]⟩ : Str) = S0 at *
  generalize (⟨#[sgn 1]⟩ : Str) = S1 at *
  generalize beg d n = B at *
  generalize wS d n = WS at *
  generalize nd d n = N at *
  have lc : lcD [18] (gtName [0] 18) gYes ce_right_5 [.str S0, .str S1] [] [x0, x1, x2, x3, some (false, N), x5, x6, x7, x8, x9, x10, x11, none, none, none, none, none, none, none, none, none] = .ok [.str (beg (d + 1) (2 * n)), .str (beg (d + 1) (2 * n + 1))] [x0, x1, x2, x3, some (false, N), x5, x6, x7, x8, x9, x10, x11, none, none, none, none, none, none, none, none, none] := by
    simp [lcD, ce_right_5, e_tUnl, e_ext, e_ext0, e_ext1, e_ext2, e_dix, e_dix1, e_dix2, e_look, e_rev, e_rev1, e_lr1, e_lr11, e_isE1, e_isE2, e_isE3, e_isE4, e_isE5, e_isE6, e_try, e_try1, e_try2, e_eqAS, e_neAS, e_eqAI, e_neAI, e_bind_ok, e_bind_exc, e_bind_stk, e_var, e_var1, e_var2, e_move, e_move1, e_move2, e_C, e_fin1, e_bin, e_bin1, e_bin2, e_chain, e_chain1, e_chain2, e_chain3, e_chain4, e_chain5, e_if, e_if1, e_if2, e_tv, e_tv1, e_notT, e_notT1, e_andT, e_andT1, e_andT2, e_orT, e_orT1, e_orT2, e_andV, e_andV1, e_andV2, e_orV, e_orV1, e_orV2, e_notV, e_notV1, e_aNil, e_aCons, e_aCons1, e_aCons2, e_star, e_star1, e_star2, e_star3, e_lst, e_lst1, e_tup, e_tup1, e_call, e_call1, e_slot, e_slot1, e_sb, e_sb0, e_sb1, e_sb2, e_sb3, e_bs, e_bs1, e_bs2, e_lenV, e_lenV1, e_un, e_un1, e_def, e_def1, e_def2, e_def3, e_fix0, e_fix1, e_fix2, e_def4, e_def0, e_def01, e_jNil, e_jVal, e_jVal1, e_j2, e_jIo, e_jIo1, e_itD0, e_itD1, e_itD2, e_itD3, e_itJ0, e_itJ1, e_itJ2, e_itP0, e_itP1, e_itP2, e_setMany0, e_setMany1, e_nodup0, e_nodup1, e_noPart, e_part, e_part1, e_slice, e_slice1, e_slice2, e_slice3, e_lstRg, e_lstRg1, e_lstRg2, e_iSeq, e_iSeq1, e_iSeq2, e_iEn, e_iEn1, e_iEn2, e_iR1, e_iR11, e_iR2, e_iR21, e_yes, e_lc, e_lc1, e_lc2, e_wipe0, e_wipe1, e_back0, e_back1, e_back2, e_noneOwn0, e_noneOwn1, e_noneOwn2, e_noneOwn3, e_noneOwn4, e_name, e_set, e_tNil, e_tCons, e_tCons1, e_tTup, e_seq, e_seq1, e_seq2, e_seq3, e_seq4, e_seq5, e_next, e_break, e_cont, e_expr, e_expr1, e_ret, e_ret1, e_sIf, e_sIf1, e_sIf2, e_asg, e_asg1, e_asg2, e_aug, e_aug0, e_aug1, e_aug2, e_aug3, e_par, e_par1, e_par2, e_app, e_app0, e_app1, e_app2, e_setIx, e_setIx0, e_setIx1, e_setIx2, e_setIx3, e_setIx4, e_match, e_match1, e_mCase, e_mAny, e_raise, e_for, e_body, e_body1, e_body2, e_body3, e_body4, e_body5, e_outs0, e_outs1, e_outs2, e_start0, e_start1, e_addI, e_addL, e_addI2, e_sub, e_cmp, e_eqI, e_neI, e_eqB, e_isN0, e_isN1, e_isN2, e_isN3, e_notN0, e_notN1, e_notN2, e_notN3, e_int, e_intB, e_max, e_min, e_neg, e_bits, e_lenL, e_lenT, e_lenS, e_ixL, e_ixT, e_ixS, e_at0, e_at1, e_at2, e_map, e_lstOf, e_lstOfS, e_seqOf, e_seqOfT, e_seqOfS, e_isiIB, e_isiII, e_isiTT, e_isiLL, sn, bg, c0, c1]
  simp [rH, e_tUnl, e_ext, e_ext0, e_ext1, e_ext2, e_dix, e_dix1, e_dix2, e_look, e_rev, e_rev1, e_lr1, e_lr11, e_isE1, e_isE2, e_isE3, e_isE4, e_isE5, e_isE6, e_try, e_try1, e_try2, e_eqAS, e_neAS, e_eqAI, e_neAI, e_bind_ok, e_bind_exc, e_bind_stk, e_var, e_var1, e_var2, e_move, e_move1, e_move2, e_C, e_fin1, e_bin, e_bin1, e_bin2, e_chain, e_chain1, e_chain2, e_chain3, e_chain4, e_chain5, e_if, e_if1, e_if2, e_tv, e_tv1, e_notT, e_notT1, e_andT, e_andT1, e_andT2, e_orT, e_orT1, e_orT2, e_andV, e_andV1, e_andV2, e_orV, e_orV1, e_orV2, e_notV, e_notV1, e_aNil, e_aCons, e_aCons1, e_aCons2, e_star, e_star1, e_star2, e_star3, e_lst, e_lst1, e_tup, e_tup1, e_call, e_call1, e_slot, e_slot1, e_sb, e_sb0, e_sb1, e_sb2, e_sb3, e_bs, e_bs1, e_bs2, e_lenV, e_lenV1, e_un, e_un1, e_def, e_def1, e_def2, e_def3, e_fix0, e_fix1, e_fix2, e_def4, e_def0, e_def01, e_jNil, e_jVal, e_jVal1, e_j2, e_jIo, e_jIo1, e_itD0, e_itD1, e_itD2, e_itD3, e_itJ0, e_itJ1, e_itJ2, e_itP0, e_itP1, e_itP2, e_setMany0, e_setMany1, e_nodup0, e_nodup1, e_noPart, e_part, e_part1, e_slice, e_slice1, e_slice2, e_slice3, e_lstRg, e_lstRg1, e_lstRg2, e_iSeq, e_iSeq1, e_iSeq2, e_iEn, e_iEn1, e_iEn2, e_iR1, e_iR11, e_iR2, e_iR21, e_yes, e_lc, e_lc1, e_lc2, e_wipe0, e_wipe1, e_back0, e_back1, e_back2, e_noneOwn0, e_noneOwn1, e_noneOwn2, e_noneOwn3, e_noneOwn4, e_name, e_set, e_tNil, e_tCons, e_tCons1, e_tTup, e_seq, e_seq1, e_seq2, e_seq3, e_seq4, e_seq5, e_next, e_break, e_cont, e_expr, e_expr1, e_ret, e_ret1, e_sIf, e_sIf1, e_sIf2, e_asg, e_asg1, e_asg2, e_aug, e_aug0, e_aug1, e_aug2, e_aug3, e_par, e_par1, e_par2, e_app, e_app0, e_app1, e_app2, e_setIx, e_setIx0, e_setIx1, e_setIx2, e_setIx3, e_setIx4, e_match, e_match1, e_mCase, e_mAny, e_raise, e_for, e_body, e_body1, e_body2, e_body3, e_body4, e_body5, e_outs0, e_outs1, e_outs2, e_start0, e_start1, e_addI, e_addL, e_addI2, e_sub, e_cmp, e_eqI, e_neI, e_eqB, e_isN0, e_isN1, e_isN2, e_isN3, e_notN0, e_notN1, e_notN2, e_notN3, e_int, e_intB, e_max, e_min, e_neg, e_bits, e_lenL, e_lenT, e_lenS, e_ixL, e_ixT, e_ixS, e_at0, e_at1, e_at2, e_map, e_lstOf, e_lstOfS, e_seqOf, e_seqOfT, e_seqOfS, e_isiIB, e_isiII, e_isiTT, e_isiLL, sL, lc, l2]
theorem rI_ok {c : D} (hc : Ch h d n c) (hh : h ≤ 100) (hn : n < 2 ^ d) (x2 x4 : Option (Bool × D)) (h8 : x8 = none ∨ ∃ b, x8 = some (false, b)) : ∃ y12,
    rI [x0, x1, x2, x3, x4, x5, x6, x7, x8, x9, some (false, c), x11, some (true, .list [.str (beg (d + 1) (2 * n)), .str (beg (d + 1) (2 * n + 1))]), none, none, none, none, none, none, none, none] = .ok .nx [x0, x1, x2, x3, x4, x5, x6, x7, x8, x9, some (false, c), x11, y12, none, none, none, none, none, none, none, none] := by
  cases hc with
  | no e =>
    refine ⟨some (true, .list [.str (beg (d + 1) (2 * n)), .str (beg (d + 1) (2 * n + 1))]), ?_⟩
    generalize PyData.list [.str (beg (d + 1) (2 * n)), .str (beg (d + 1) (2 * n + 1))] = LL
    simp [rI, e_tUnl, e_ext, e_ext0, e_ext1, e_ext2, e_dix, e_dix1, e_dix2, e_look, e_rev, e_rev1, e_lr1, e_lr11, e_isE1, e_isE2, e_isE3, e_isE4, e_isE5, e_isE6, e_try, e_try1, e_try2, e_eqAS, e_neAS, e_eqAI, e_neAI, e_bind_ok, e_bind_exc, e_bind_stk, e_var, e_var1, e_var2, e_move, e_move1, e_move2, e_C, e_fin1, e_bin, e_bin1, e_bin2, e_chain, e_chain1, e_chain2, e_chain3, e_chain4, e_chain5, e_if, e_if1, e_if2, e_tv, e_tv1, e_notT, e_notT1, e_andT, e_andT1, e_andT2, e_orT, e_orT1, e_orT2, e_andV, e_andV1, e_andV2, e_orV, e_orV1, e_orV2, e_notV, e_notV1, e_aNil, e_aCons, e_aCons1, e_aCons2, e_star, e_star1, e_star2, e_star3, e_lst, e_lst1, e_tup, e_tup1, e_call, e_call1, e_slot, e_slot1, e_sb, e_sb0, e_sb1, e_sb2, e_sb3, e_bs, e_bs1, e_bs2, e_lenV, e_lenV1, e_un, e_un1, e_def, e_def1, e_def2, e_def3, e_fix0, e_fix1, e_fix2, e_def4, e_def0, e_def01, e_jNil, e_jVal, e_jVal1, e_j2, e_jIo, e_jIo1, e_itD0, e_itD1, e_itD2, e_itD3, e_itJ0, e_itJ1, e_itJ2, e_itP0, e_itP1, e_itP2, e_setMany0, e_setMany1, e_nodup0, e_nodup1, e_noPart, e_part, e_part1, e_slice, e_slice1, e_slice2, e_slice3, e_lstRg, e_lstRg1, e_lstRg2, e_iSeq, e_iSeq1, e_iSeq2, e_iEn, e_iEn1, e_iEn2, e_iR1, e_iR11, e_iR2, e_iR21, e_yes, e_lc, e_lc1, e_lc2, e_wipe0, e_wipe1, e_back0, e_back1, e_back2, e_noneOwn0, e_noneOwn1, e_noneOwn2, e_noneOwn3, e_noneOwn4, e_name, e_set, e_tNil, e_tCons, e_tCons1, e_tTup, e_seq, e_seq1, e_seq2, e_seq3, e_seq4, e_seq5, e_next, e_break, e_cont, e_expr, e_expr1, e_ret, e_ret1, e_sIf, e_sIf1, e_sIf2, e_asg, e_asg1, e_asg2, e_aug, e_aug0, e_aug1, e_aug2, e_aug3, e_par, e_par1, e_par2, e_app, e_app0, e_app1, e_app2, e_setIx, e_setIx0, e_setIx1, e_setIx2, e_setIx3, e_setIx4, e_match, e_match1, e_mCase, e_mAny, e_raise, e_for, e_body, e_body1, e_body2, e_body3, e_body4, e_body5, e_outs0, e_outs1, e_outs2, e_start0, e_start1, e_addI, e_addL, e_addI2, e_sub, e_cmp, e_eqI, e_neI, e_eqB, e_isN0, e_isN1, e_isN2, e_isN3, e_notN0, e_notN1, e_notN2, e_notN3, e_int, e_intB, e_max, e_min, e_neg, e_bits, e_lenL, e_lenT, e_lenS, e_ixL, e_ixT, e_ixS, e_at0, e_at1, e_at2, e_map, e_lstOf, e_lstOfS, e_seqOf, e_seqOfT, e_seqOfS, e_isiIB, e_isiII, e_isiTT, e_isiLL]
  | yes e =>
    have p : 2 ^ (d + 1) = 2 ^ d * 2 := Nat.pow_succ ..
    have s0 := show_node_ok (d + 1) (2 * n) (by omega) (by omega)
    have s1 := show_node_ok (d + 1) (2 * n + 1) (by omega) (by omega)
    rw [wS_pos _ (by omega)] at s0 s1
    have ne := ne_strs [beg (d + 1) (2 * n), beg (d + 1) (2 * n + 1)] (by
      intro y hy
      simp only [List.mem_cons, List.not_mem_nil, or_false] at hy
      rcases hy with rfl | rfl <;> exact beg_strOk _ _)
    have ne : dNeA (.list [.str (beg (d + 1) (2 * n)), .str (beg (d + 1) (2 * n + 1))]) (.list [.str (beg (d + 1) (2 * n)), .str (beg (d + 1) (2 * n + 1))]) = some (.bool false, false) := ne
    have l2 := l2
    have isn : dIsN (.tuple [nd (d + 1) (2 * n), nd (d + 1) (2 * n + 1)]) .none = some (.bool true, false) := id rfl
    refine ⟨some (false, PyData.list ([.str (beg (d + 1) (2 * n)), .str (beg (d + 1) (2 * n + 1))])), ?_⟩
    generalize beg (d + 1) (2 * n) = B0 at *
    generalize beg (d + 1) (2 * n + 1) = B1 at *
    generalize nd (d + 1) (2 * n) = N0 at *
    generalize nd (d + 1) (2 * n + 1) = N1 at *
    have lc : lcD [8] (gtName [0] 8) gYes ce_right_6 [N0, N1] [] [x0, x1, x2, x3, x4, x5, x6, x7, none, x9, some (false, .tuple [N0, N1]), x11, some (true, .list [.str B0, .str B1]), none, none, none, none, none, none, none, none] = .ok [.str B0, .str B1] [x0, x1, x2, x3, x4, x5, x6, x7, none, x9, some (false, .tuple [N0, N1]), x11, some (true, .list [.str B0, .str B1]), none, none, none, none, none, none, none, none] := by
      simp [lcD, ce_right_6, e_tUnl, e_ext, e_ext0, e_ext1, e_ext2, e_dix, e_dix1, e_dix2, e_look, e_rev, e_rev1, e_lr1, e_lr11, e_isE1, e_isE2, e_isE3, e_isE4, e_isE5, e_isE6, e_try, e_try1, e_try2, e_eqAS, e_neAS, e_eqAI, e_neAI, e_bind_ok, e_bind_exc, e_bind_stk, e_var, e_var1, e_var2, e_move, e_move1, e_move2, e_C, e_fin1, e_bin, e_bin1, e_bin2, e_chain, e_chain1, e_chain2, e_chain3, e_chain4, e_chain5, e_if, e_if1, e_if2, e_tv, e_tv1, e_notT, e_notT1, e_andT, e_andT1, e_andT2, e_orT, e_orT1, e_orT2, e_andV, e_andV1, e_andV2, e_orV, e_orV1, e_orV2, e_notV, e_notV1, e_aNil, e_aCons, e_aCons1, e_aCons2, e_star, e_star1, e_star2, e_star3, e_lst, e_lst1, e_tup, e_tup1, e_call, e_call1, e_slot, e_slot1, e_sb, e_sb0, e_sb1, e_sb2, e_sb3, e_bs, e_bs1, e_bs2, e_lenV, e_lenV1, e_un, e_un1, e_def, e_def1, e_def2, e_def3, e_fix0, e_fix1, e_fix2, e_def4, e_def0, e_def01, e_jNil, e_jVal, e_jVal1, e_j2, e_jIo, e_jIo1, e_itD0, e_itD1, e_itD2, e_itD3, e_itJ0, e_itJ1, e_itJ2, e_itP0, e_itP1, e_itP2, e_setMany0, e_setMany1, e_nodup0, e_nodup1, e_noPart, e_part, e_part1, e_slice, e_slice1, e_slice2, e_slice3, e_lstRg, e_lstRg1, e_lstRg2, e_iSeq, e_iSeq1, e_iSeq2, e_iEn, e_iEn1, e_iEn2, e_iR1, e_iR11, e_iR2, e_iR21, e_yes, e_lc, e_lc1, e_lc2, e_wipe0, e_wipe1, e_back0, e_back1, e_back2, e_noneOwn0, e_noneOwn1, e_noneOwn2, e_noneOwn3, e_noneOwn4, e_name, e_set, e_tNil, e_tCons, e_tCons1, e_tTup, e_seq, e_seq1, e_seq2, e_seq3, e_seq4, e_seq5, e_next, e_break, e_cont, e_expr, e_expr1, e_ret, e_ret1, e_sIf, e_sIf1, e_sIf2, e_asg, e_asg1, e_asg2, e_aug, e_aug0, e_aug1, e_aug2, e_aug3, e_par, e_par1, e_par2, e_app, e_app0, e_app1, e_app2, e_setIx, e_setIx0, e_setIx1, e_setIx2, e_setIx3, e_setIx4, e_match, e_match1, e_mCase, e_mAny, e_raise, e_for, e_body, e_body1, e_body2, e_body3, e_body4, e_body5, e_outs0, e_outs1, e_outs2, e_start0, e_start1, e_addI, e_addL, e_addI2, e_sub, e_cmp, e_eqI, e_neI, e_eqB, e_isN0, e_isN1, e_isN2, e_isN3, e_notN0, e_notN1, e_notN2, e_notN3, e_int, e_intB, e_max, e_min, e_neg, e_bits, e_lenL, e_lenT, e_lenS, e_ixL, e_ixT, e_ixS, e_at0, e_at1, e_at2, e_map, e_lstOf, e_lstOfS, e_seqOf, e_seqOfT, e_seqOfS, e_isiIB, e_isiII, e_isiTT, e_isiLL, s0, s1]
    rcases h8 with rfl | ⟨b, rfl⟩ <;> simp [rI, e_tUnl, e_ext, e_ext0, e_ext1, e_ext2, e_dix, e_dix1, e_dix2, e_look, e_rev, e_rev1, e_lr1, e_lr11, e_isE1, e_isE2, e_isE3, e_isE4, e_isE5, e_isE6, e_try, e_try1, e_try2, e_eqAS, e_neAS, e_eqAI, e_neAI, e_bind_ok, e_bind_exc, e_bind_stk, e_var, e_var1, e_var2, e_move, e_move1, e_move2, e_C, e_fin1, e_bin, e_bin1, e_bin2, e_chain, e_chain1, e_chain2, e_chain3, e_chain4, e_chain5, e_if, e_if1, e_if2, e_tv, e_tv1, e_notT, e_notT1, e_andT, e_andT1, e_andT2, e_orT, e_orT1, e_orT2, e_andV, e_andV1, e_andV2, e_orV, e_orV1, e_orV2, e_notV, e_notV1, e_aNil, e_aCons, e_aCons1, e_aCons2, e_star, e_star1, e_star2, e_star3, e_lst, e_lst1, e_tup, e_tup1, e_call, e_call1, e_slot, e_slot1, e_sb, e_sb0, e_sb1, e_sb2, e_sb3, e_bs, e_bs1, e_bs2, e_lenV, e_lenV1, e_un, e_un1, e_def, e_def1, e_def2, e_def3, e_fix0, e_fix1, e_fix2, e_def4, e_def0, e_def01, e_jNil, e_jVal, e_jVal1, e_j2, e_jIo, e_jIo1, e_itD0, e_itD1, e_itD2, e_itD3, e_itJ0, e_itJ1, e_itJ2, e_itP0, e_itP1, e_itP2, e_setMany0, e_setMany1, e_nodup0, e_nodup1, e_noPart, e_part, e_part1, e_slice, e_slice1, e_slice2, e_slice3, e_lstRg, e_lstRg1, e_lstRg2, e_iSeq, e_iSeq1, e_iSeq2, e_iEn, e_iEn1, e_iEn2, e_iR1, e_iR11, e_iR2, e_iR21, e_yes, e_lc, e_lc1, e_lc2, e_wipe0, e_wipe1, e_back0, e_back1, e_back2, e_noneOwn0, e_noneOwn1, e_noneOwn2, e_noneOwn3, e_noneOwn4, e_name, e_set, e_tNil, e_tCons, e_tCons1, e_tTup, e_seq, e_seq1, e_seq2, e_seq3, e_seq4, e_seq5, e_next, e_break, e_cont, e_expr, e_expr1, e_ret, e_ret1, e_sIf, e_sIf1, e_sIf2, e_asg, e_asg1, e_asg2, e_aug, e_aug0, e_aug1, e_aug2, e_aug3, e_par, e_par1, e_par2, e_app, e_app0, e_app1, e_app2, e_setIx, e_setIx0, e_setIx1, e_setIx2, e_setIx3, e_setIx4, e_match, e_match1, e_mCase, e_mAny, e_raise, e_for, e_body, e_body1, e_body2, e_body3, e_body4, e_body5, e_outs0, e_outs1, e_outs2, e_start0, e_start1, e_addI, e_addL, e_addI2, e_sub, e_cmp, e_eqI, e_neI, e_eqB, e_isN0, e_isN1, e_isN2, e_isN3, e_notN0, e_notN1, e_notN2, e_notN3, e_int, e_intB, e_max, e_min, e_neg, e_bits, e_lenL, e_lenT, e_lenS, e_ixL, e_ixT, e_ixS, e_at0, e_at1, e_at2, e_map, e_lstOf, e_lstOfS, e_seqOf, e_seqOfT, e_seqOfS, e_isiIB, e_isiII, e_isiTT, e_isiLL, lc, l2, isn, ne, e_seqOfT]
theorem rJ_ok {p : D} (hp : Pa d n p) (hd : d < 100) (hn : n < 2 ^ d) (x2 : Option (Bool × D)) :
    rJ [x0, x1, x2, x3, some (false, nd d n), x5, x6, x7, x8, x9, x10, some (false, p), x12, none, none, none, none, none, none, none, none] = .ok .nx [x0, x1, x2, x3, some (false, nd d n), x5, x6, x7, x8, x9, x10, some (false, p), x12, none, none, none, none, none, none, none, none] := by
  cases hp with
  | no e =>
    generalize nd 0 n = N
    simp [rJ, e_tUnl, e_ext, e_ext0, e_ext1, e_ext2, e_dix, e_dix1, e_dix2, e_look, e_rev, e_rev1, e_lr1, e_lr11, e_isE1, e_isE2, e_isE3, e_isE4, e_isE5, e_isE6, e_try, e_try1, e_try2, e_eqAS, e_neAS, e_eqAI, e_neAI, e_bind_ok, e_bind_exc, e_bind_stk, e_var, e_var1, e_var2, e_move, e_move1, e_move2, e_C, e_fin1, e_bin, e_bin1, e_bin2, e_chain, e_chain1, e_chain2, e_chain3, e_chain4, e_chain5, e_if, e_if1, e_if2, e_tv, e_tv1, e_notT, e_notT1, e_andT, e_andT1, e_andT2, e_orT, e_orT1, e_orT2, e_andV, e_andV1, e_andV2, e_orV, e_orV1, e_orV2, e_notV, e_notV1, e_aNil, e_aCons, e_aCons1, e_aCons2, e_star, e_star1, e_star2, e_star3, e_lst, e_lst1, e_tup, e_tup1, e_call, e_call1, e_slot, e_slot1, e_sb, e_sb0, e_sb1, e_sb2, e_sb3, e_bs, e_bs1, e_bs2, e_lenV, e_lenV1, e_un, e_un1, e_def, e_def1, e_def2, e_def3, e_fix0, e_fix1, e_fix2, e_def4, e_def0, e_def01, e_jNil, e_jVal, e_jVal1, e_j2, e_jIo, e_jIo1, e_itD0, e_itD1, e_itD2, e_itD3, e_itJ0, e_itJ1, e_itJ2, e_itP0, e_itP1, e_itP2, e_setMany0, e_setMany1, e_nodup0, e_nodup1, e_noPart, e_part, e_part1, e_slice, e_slice1, e_slice2, e_slice3, e_lstRg, e_lstRg1, e_lstRg2, e_iSeq, e_iSeq1, e_iSeq2, e_iEn, e_iEn1, e_iEn2, e_iR1, e_iR11, e_iR2, e_iR21, e_yes, e_lc, e_lc1, e_lc2, e_wipe0, e_wipe1, e_back0, e_back1, e_back2, e_noneOwn0, e_noneOwn1, e_noneOwn2, e_noneOwn3, e_noneOwn4, e_name, e_set, e_tNil, e_tCons, e_tCons1, e_tTup, e_seq, e_seq1, e_seq2, e_seq3, e_seq4, e_seq5, e_next, e_break, e_cont, e_expr, e_expr1, e_ret, e_ret1, e_sIf, e_sIf1, e_sIf2, e_asg, e_asg1, e_asg2, e_aug, e_aug0, e_aug1, e_aug2, e_aug3, e_par, e_par1, e_par2, e_app, e_app0, e_app1, e_app2, e_setIx, e_setIx0, e_setIx1, e_setIx2, e_setIx3, e_setIx4, e_match, e_match1, e_mCase, e_mAny, e_raise, e_for, e_body, e_body1, e_body2, e_body3, e_body4, e_body5, e_outs0, e_outs1, e_outs2, e_start0, e_start1, e_addI, e_addL, e_addI2, e_sub, e_cmp, e_eqI, e_neI, e_eqB, e_isN0, e_isN1, e_isN2, e_isN3, e_notN0, e_notN1, e_notN2, e_notN3, e_int, e_intB, e_max, e_min, e_neg, e_bits, e_lenL, e_lenT, e_lenS, e_ixL, e_ixT, e_ixS, e_at0, e_at1, e_at2, e_map, e_lstOf, e_lstOfS, e_seqOf, e_seqOfT, e_seqOfS, e_isiIB, e_isiII, e_isiTT, e_isiLL]
  | yes d e =>
    have p : 2 ^ (d + 1) = 2 ^ d * 2 := Nat.pow_succ ..
    have s0 := show_node_ok d (n / 2) (by omega) (by omega)
    have s1 := show_node_ok (d + 1) n (by omega) hn
    have b0 := begin_ok d (n / 2)
    have sl := wS_cut d n (by omega)
    have isn := nd_isn d (n / 2)
    generalize wS d (n / 2) = W0 at *
    generalize wS (d + 1) n = W1 at *
    generalize beg d (n / 2) = B at *
    generalize nd d (n / 2) = N0 at *
    generalize nd (d + 1) n = N1 at *
    simp [rJ, e_tUnl, e_ext, e_ext0, e_ext1, e_ext2, e_dix, e_dix1, e_dix2, e_look, e_rev, e_rev1, e_lr1, e_lr11, e_isE1, e_isE2, e_isE3, e_isE4, e_isE5, e_isE6, e_try, e_try1, e_try2, e_eqAS, e_neAS, e_eqAI, e_neAI, e_bind_ok, e_bind_exc, e_bind_stk, e_var, e_var1, e_var2, e_move, e_move1, e_move2, e_C, e_fin1, e_bin, e_bin1, e_bin2, e_chain, e_chain1, e_chain2, e_chain3, e_chain4, e_chain5, e_if, e_if1, e_if2, e_tv, e_tv1, e_notT, e_notT1, e_andT, e_andT1, e_andT2, e_orT, e_orT1, e_orT2, e_andV, e_andV1, e_andV2, e_orV, e_orV1, e_orV2, e_notV, e_notV1, e_aNil, e_aCons, e_aCons1, e_aCons2, e_star, e_star1, e_star2, e_star3, e_lst, e_lst1, e_tup, e_tup1, e_call, e_call1, e_slot, e_slot1, e_sb, e_sb0, e_sb1, e_sb2, e_sb3, e_bs, e_bs1, e_bs2, e_lenV, e_lenV1, e_un, e_un1, e_def, e_def1, e_def2, e_def3, e_fix0, e_fix1, e_fix2, e_def4, e_def0, e_def01, e_jNil, e_jVal, e_jVal1, e_j2, e_jIo, e_jIo1, e_itD0, e_itD1, e_itD2, e_itD3, e_itJ0, e_itJ1, e_itJ2, e_itP0, e_itP1, e_itP2, e_setMany0, e_setMany1, e_nodup0, e_nodup1, e_noPart, e_part, e_part1, e_slice, e_slice1, e_slice2, e_slice3, e_lstRg, e_lstRg1, e_lstRg2, e_iSeq, e_iSeq1, e_iSeq2, e_iEn, e_iEn1, e_iEn2, e_iR1, e_iR11, e_iR2, e_iR21, e_yes, e_lc, e_lc1, e_lc2, e_wipe0, e_wipe1, e_back0, e_back1, e_back2, e_noneOwn0, e_noneOwn1, e_noneOwn2, e_noneOwn3, e_noneOwn4, e_name, e_set, e_tNil, e_tCons, e_tCons1, e_tTup, e_seq, e_seq1, e_seq2, e_seq3, e_seq4, e_seq5, e_next, e_break, e_cont, e_expr, e_expr1, e_ret, e_ret1, e_sIf, e_sIf1, e_sIf2, e_asg, e_asg1, e_asg2, e_aug, e_aug0, e_aug1, e_aug2, e_aug3, e_par, e_par1, e_par2, e_app, e_app0, e_app1, e_app2, e_setIx, e_setIx0, e_setIx1, e_setIx2, e_setIx3, e_setIx4, e_match, e_match1, e_mCase, e_mAny, e_raise, e_for, e_body, e_body1, e_body2, e_body3, e_body4, e_body5, e_outs0, e_outs1, e_outs2, e_start0, e_start1, e_addI, e_addL, e_addI2, e_sub, e_cmp, e_eqI, e_neI, e_eqB, e_isN0, e_isN1, e_isN2, e_isN3, e_notN0, e_notN1, e_notN2, e_notN3, e_int, e_intB, e_max, e_min, e_neg, e_bits, e_lenL, e_lenT, e_lenS, e_ixL, e_ixT, e_ixS, e_at0, e_at1, e_at2, e_map, e_lstOf, e_lstOfS, e_seqOf, e_seqOfT, e_seqOfS, e_isiIB, e_isiII, e_isiTT, e_isiLL, s0, s1, b0, sl, isn]
end
end SM
namespace SM
open PySem PySem.Spec DL
open PyProof.Rows hiding St
/-- what the meet of two nodes is -/
structure Mt (d1 n1 d2 n2 e z : Nat) : Prop where
  e1 : e ≤ d1
  e2 : e ≤ d2
  z1 : n1 / 2 ^ (d1 - e) = z
  z2 : n2 / 2 ^ (d2 - e) = z
  pt : e < min d1 d2 → bt n1 (d1 - 1 - e) ≠ bt n2 (d2 - 1 - e)
theorem mt_ok (h d1 n1 d2 n2 : Nat) (hd1 : d1 < h) (hd2 : d2 < h) (hh : h ≤ 100) (h1 : n1 < 2 ^ d1) (h2 : n2 < 2 ^ d2) : ∃ e z, Mt d1 n1 d2 n2 e z ∧ z < 2 ^ e ∧ m_meet [.int (h : Int), nd d1 n1, nd d2 n2] = .ok (nd e z, false) [] := by
  obtain ⟨M, hM, hle, me⟩ := meet_ok h d1 n1 d2 n2 hd1 hd2 hh h1 h2
  have hi := xor_high (n1 / 2 ^ (d1 - min d1 d2)) (n2 / 2 ^ (d2 - min d1 d2))
  rw [← hM] at hi
  have a1 : n1 / 2 ^ (d1 - min d1 d2) / 2 ^ M = n1 / 2 ^ (d1 - (min d1 d2 - M)) := by
    rw [Nat.div_div_eq_div_mul, ← Nat.pow_add, show d1 - min d1 d2 + M = d1 - (min d1 d2 - M) by omega]
  have a2 : n2 / 2 ^ (d2 - min d1 d2) / 2 ^ M = n2 / 2 ^ (d2 - (min d1 d2 - M)) := by
    rw [Nat.div_div_eq_div_mul, ← Nat.pow_add, show d2 - min d1 d2 + M = d2 - (min d1 d2 - M) by omega]
  refine ⟨min d1 d2 - M, n1 / 2 ^ (d1 - (min d1 d2 - M)), ⟨by omega, by omega, rfl, by rw [← a2, ← a1, hi], fun c => ?_⟩, div_lt_p h1 (by omega), by rw [← a1]; exact me⟩
  have m0 : 0 < M := by omega
  have x0 : n1 / 2 ^ (d1 - min d1 d2) ^^^ n2 / 2 ^ (d2 - min d1 d2) ≠ 0 := fun e => by
    rw [e] at hM
    have : bitsN 0 = 0 := rfl
    omega
  have lo := xor_low _ _ x0
  rw [← hM, bt_div, bt_div, show d1 - min d1 d2 + (M - 1) = d1 - 1 - (min d1 d2 - M) by omega, show d2 - min d1 d2 + (M - 1) = d2 - 1 - (min d1 d2 - M) by omega] at lo
  exact lo
theorem two_of (x : D) : dMul (.list [x]) (.int 2) = some (.list [x, x], true) := by
  show (if (0 : Int) ≤ 2 ∧ (2 : Int) ≤ 1000000 ∧ [x].length * (2 : Int).toNat ≤ LINE then some (PyData.list (List.replicate (2 : Int).toNat [x]).flatten, true) else none) = _
  rw [if_pos ⟨by omega, by omega, by show 1 * 2 ≤ 16777216; omega⟩]
  rfl
theorem len_beg (d n : Nat) (hd : d ≤ 1000) : dLen [.str (beg d n)] = some (.int (d : Int), false) := by
  show (if (beg d n).length ≤ LINE then some (PyData.int ((beg d n).length : Int), false) else none) = _
  rw [if_pos (by rw [beg_len]; exact lE d hd), beg_len]
theorem min_nat (a b : Nat) : dMin2 [.int (a : Int), .int (b : Int)] = some (.int ((min a b : Nat) : Int), false) := by
  rw [e_min]
  by_cases c : (b : Int) < a
  · rw [if_pos c, show min a b = b by omega]
  · rw [if_neg c, show min a b = a by omega]
section
variable {x0 x1 x3 x6 x7 x8 x9 x10 x11 x12 x13 : Option (Bool × D)} {h d1 n1 d2 n2 e z : Nat}
theorem rK_ok (hz : z < 2 ^ e) (he : e < 100) (me : m_meet [.int (h : Int), nd d1 n1, nd d2 n2] = .ok (nd e z, false) []) :
    rK [x0, x1, some (false, PyData.int ((h : Nat))), x3, some (false, nd d1 n1), some (false, nd d2 n2), x6, x7, x8, x9, x10, x11, x12, none, none, none, none, none, none, none, none] = .ok .nx [x0, x1, some (false, PyData.int ((h : Nat))), x3, some (false, nd d1 n1), some (false, nd d2 n2), x6, x7, x8, x9, x10, x11, x12, some (false, PyData.str (beg e z)), none, none, none, none, none, none, none] := by
  have s := show_node_ok e z he hz
  have b := begin_ok e z
  generalize beg e z = B at *
  generalize wS e z = W at *
  generalize nd e z = N at *
  generalize nd d1 n1 = N1 at *
  generalize nd d2 n2 = N2 at *
  simp [rK, e_tUnl, e_ext, e_ext0, e_ext1, e_ext2, e_dix, e_dix1, e_dix2, e_look, e_rev, e_rev1, e_lr1, e_lr11, e_isE1, e_isE2, e_isE3, e_isE4, e_isE5, e_isE6, e_try, e_try1, e_try2, e_eqAS, e_neAS, e_eqAI, e_neAI, e_bind_ok, e_bind_exc, e_bind_stk, e_var, e_var1, e_var2, e_move, e_move1, e_move2, e_C, e_fin1, e_bin, e_bin1, e_bin2, e_chain, e_chain1, e_chain2, e_chain3, e_chain4, e_chain5, e_if, e_if1, e_if2, e_tv, e_tv1, e_notT, e_notT1, e_andT, e_andT1, e_andT2, e_orT, e_orT1, e_orT2, e_andV, e_andV1, e_andV2, e_orV, e_orV1, e_orV2, e_notV, e_notV1, e_aNil, e_aCons, e_aCons1, e_aCons2, e_star, e_star1, e_star2, e_star3, e_lst, e_lst1, e_tup, e_tup1, e_call, e_call1, e_slot, e_slot1, e_sb, e_sb0, e_sb1, e_sb2, e_sb3, e_bs, e_bs1, e_bs2, e_lenV, e_lenV1, e_un, e_un1, e_def, e_def1, e_def2, e_def3, e_fix0, e_fix1, e_fix2, e_def4, e_def0, e_def01, e_jNil, e_jVal, e_jVal1, e_j2, e_jIo, e_jIo1, e_itD0, e_itD1, e_itD2, e_itD3, e_itJ0, e_itJ1, e_itJ2, e_itP0, e_itP1, e_itP2, e_setMany0, e_setMany1, e_nodup0, e_nodup1, e_noPart, e_part, e_part1, e_slice, e_slice1, e_slice2, e_slice3, e_lstRg, e_lstRg1, e_lstRg2, e_iSeq, e_iSeq1, e_iSeq2, e_iEn, e_iEn1, e_iEn2, e_iR1, e_iR11, e_iR2, e_iR21, e_yes, e_lc, e_lc1, e_lc2, e_wipe0, e_wipe1, e_back0, e_back1, e_back2, e_noneOwn0, e_noneOwn1, e_noneOwn2, e_noneOwn3, e_noneOwn4, e_name, e_set, e_tNil, e_tCons, e_tCons1, e_tTup, e_seq, e_seq1, e_seq2, e_seq3, e_seq4, e_seq5, e_next, e_break, e_cont, e_expr, e_expr1, e_ret, e_ret1, e_sIf, e_sIf1, e_sIf2, e_asg, e_asg1, e_asg2, e_aug, e_aug0, e_aug1, e_aug2, e_aug3, e_par, e_par1, e_par2, e_app, e_app0, e_app1, e_app2, e_setIx, e_setIx0, e_setIx1, e_setIx2, e_setIx3, e_setIx4, e_match, e_match1, e_mCase, e_mAny, e_raise, e_for, e_body, e_body1, e_body2, e_body3, e_body4, e_body5, e_outs0, e_outs1, e_outs2, e_start0, e_start1, e_addI, e_addL, e_addI2, e_sub, e_cmp, e_eqI, e_neI, e_eqB, e_isN0, e_isN1, e_isN2, e_isN3, e_notN0, e_notN1, e_notN2, e_notN3, e_int, e_intB, e_max, e_min, e_neg, e_bits, e_lenL, e_lenT, e_lenS, e_ixL, e_ixT, e_ixS, e_at0, e_at1, e_at2, e_map, e_lstOf, e_lstOfS, e_seqOf, e_seqOfT, e_seqOfS, e_isiIB, e_isiII, e_isiTT, e_isiLL, me, s, b]
theorem rL_ok (hd1 : d1 < 100) (hd2 : d2 < 100) (h1 : n1 < 2 ^ d1) (h2 : n2 < 2 ^ d2) (x2 : Option (Bool × D)) :
    rL [x0, x1, x2, x3, some (false, nd d1 n1), some (false, nd d2 n2), x6, x7, x8, x9, x10, x11, x12, x13, none, none, none, none, none, none, none] = .ok .nx [x0, x1, x2, x3, some (false, nd d1 n1), some (false, nd d2 n2), x6, x7, x8, x9, x10, x11, x12, x13, some (true, .list [.str (beg d1 n1), .str (beg d2 n2)]), none, none, none, none, none, none] := by
  have s1 := show_node_ok d1 n1 hd1 h1
  have b1 := begin_ok d1 n1
  have s2 := show_node_ok d2 n2 hd2 h2
  have b2 := begin_ok d2 n2
  have l2 := l2
  generalize beg d1 n1 = B1 at *
  generalize beg d2 n2 = B2 at *
  generalize wS d1 n1 = W1 at *
  generalize wS d2 n2 = W2 at *
  generalize nd d1 n1 = N1 at *
  generalize nd d2 n2 = N2 at *
  simp [rL, e_tUnl, e_ext, e_ext0, e_ext1, e_ext2, e_dix, e_dix1, e_dix2, e_look, e_rev, e_rev1, e_lr1, e_lr11, e_isE1, e_isE2, e_isE3, e_isE4, e_isE5, e_isE6, e_try, e_try1, e_try2, e_eqAS, e_neAS, e_eqAI, e_neAI, e_bind_ok, e_bind_exc, e_bind_stk, e_var, e_var1, e_var2, e_move, e_move1, e_move2, e_C, e_fin1, e_bin, e_bin1, e_bin2, e_chain, e_chain1, e_chain2, e_chain3, e_chain4, e_chain5, e_if, e_if1, e_if2, e_tv, e_tv1, e_notT, e_notT1, e_andT, e_andT1, e_andT2, e_orT, e_orT1, e_orT2, e_andV, e_andV1, e_andV2, e_orV, e_orV1, e_orV2, e_notV, e_notV1, e_aNil, e_aCons, e_aCons1, e_aCons2, e_star, e_star1, e_star2, e_star3, e_lst, e_lst1, e_tup, e_tup1, e_call, e_call1, e_slot, e_slot1, e_sb, e_sb0, e_sb1, e_sb2, e_sb3, e_bs, e_bs1, e_bs2, e_lenV, e_lenV1, e_un, e_un1, e_def, e_def1, e_def2, e_def3, e_fix0, e_fix1, e_fix2, e_def4, e_def0, e_def01, e_jNil, e_jVal, e_jVal1, e_j2, e_jIo, e_jIo1, e_itD0, e_itD1, e_itD2, e_itD3, e_itJ0, e_itJ1, e_itJ2, e_itP0, e_itP1, e_itP2, e_setMany0, e_setMany1, e_nodup0, e_nodup1, e_noPart, e_part, e_part1, e_slice, e_slice1, e_slice2, e_slice3, e_lstRg, e_lstRg1, e_lstRg2, e_iSeq, e_iSeq1, e_iSeq2, e_iEn, e_iEn1, e_iEn2, e_iR1, e_iR11, e_iR2, e_iR21, e_yes, e_lc, e_lc1, e_lc2, e_wipe0, e_wipe1, e_back0, e_back1, e_back2, e_noneOwn0, e_noneOwn1, e_noneOwn2, e_noneOwn3, e_noneOwn4, e_name, e_set, e_tNil, e_tCons, e_tCons1, e_tTup, e_seq, e_seq1, e_seq2, e_seq3, e_seq4, e_seq5, e_next, e_break, e_cont, e_expr, e_expr1, e_ret, e_ret1, e_sIf, e_sIf1, e_sIf2, e_asg, e_asg1, e_asg2, e_aug, e_aug0, e_aug1, e_aug2, e_aug3, e_par, e_par1, e_par2, e_app, e_app0, e_app1, e_app2, e_setIx, e_setIx0, e_setIx1, e_setIx2, e_setIx3, e_setIx4, e_match, e_match1, e_mCase, e_mAny, e_raise, e_for, e_body, e_body1, e_body2, e_body3, e_body4, e_body5, e_outs0, e_outs1, e_outs2, e_start0, e_start1, e_addI, e_addL, e_addI2, e_sub, e_cmp, e_eqI, e_neI, e_eqB, e_isN0, e_isN1, e_isN2, e_isN3, e_notN0, e_notN1, e_notN2, e_notN3, e_int, e_intB, e_max, e_min, e_neg, e_bits, e_lenL, e_lenT, e_lenS, e_ixL, e_ixT, e_ixS, e_at0, e_at1, e_at2, e_map, e_lstOf, e_lstOfS, e_seqOf, e_seqOfT, e_seqOfS, e_isiIB, e_isiII, e_isiTT, e_isiLL, s1, b1, s2, b2, l2]
theorem rM_ok (m : Mt d1 n1 d2 n2 e z) (hd1 : d1 < 100) (hd2 : d2 < 100) (x2 x4 x5 : Option (Bool × D)) :
    rM [x0, x1, x2, x3, x4, x5, x6, x7, x8, x9, x10, x11, x12, some (false, PyData.str (beg e z)), some (true, .list [.str (beg d1 n1), .str (beg d2 n2)]), none, none, none, none, none, none] = .ok .nx [x0, x1, x2, x3, x4, x5, x6, x7, x8, x9, x10, x11, x12, some (false, PyData.str (beg e z)), some (false, PyData.list ([.str (beg d1 n1), .str (beg d2 n2)])), none, none, none, none, none, none] := by
  have t1 := beg_take n1 m.e1 (by omega)
  have t2 := beg_take n2 m.e2 (by omega)
  rw [m.z1] at t1
  rw [m.z2] at t2
  have l := len_beg e z (by have := m.e1; omega)
  have tw := two_of (.str (beg e z))
  have ne : dNeA (.list [.str (beg e z), .str (beg e z)]) (.list [.str (beg e z), .str (beg e z)]) = some (.bool false, false) := ne_strs [beg e z, beg e z] (by
    intro y hy
    simp only [List.mem_cons, List.not_mem_nil, or_false, or_self] at hy
    rw [hy]
    exact beg_strOk _ _)
  have l2 := l2
  have l1 := l1
  generalize beg e z = B at *
  generalize beg d1 n1 = B1 at *
  generalize beg d2 n2 = B2 at *
  have lc : lcD [19] (gtName [0] 19) gYes ce_right_7 [.str B1, .str B2] [] [x0, x1, x2, x3, x4, x5, x6, x7, x8, x9, x10, x11, x12, some (false, PyData.str (B)), some (false, PyData.list ([.str B1, .str B2])), none, none, none, none, none, none] = .ok [.str B, .str B] [x0, x1, x2, x3, x4, x5, x6, x7, x8, x9, x10, x11, x12, some (false, PyData.str (B)), some (false, PyData.list ([.str B1, .str B2])), none, none, none, none, none, none] := by
    simp [lcD, ce_right_7, e_tUnl, e_ext, e_ext0, e_ext1, e_ext2, e_dix, e_dix1, e_dix2, e_look, e_rev, e_rev1, e_lr1, e_lr11, e_isE1, e_isE2, e_isE3, e_isE4, e_isE5, e_isE6, e_try, e_try1, e_try2, e_eqAS, e_neAS, e_eqAI, e_neAI, e_bind_ok, e_bind_exc, e_bind_stk, e_var, e_var1, e_var2, e_move, e_move1, e_move2, e_C, e_fin1, e_bin, e_bin1, e_bin2, e_chain, e_chain1, e_chain2, e_chain3, e_chain4, e_chain5, e_if, e_if1, e_if2, e_tv, e_tv1, e_notT, e_notT1, e_andT, e_andT1, e_andT2, e_orT, e_orT1, e_orT2, e_andV, e_andV1, e_andV2, e_orV, e_orV1, e_orV2, e_notV, e_notV1, e_aNil, e_aCons, e_aCons1, e_aCons2, e_star, e_star1, e_star2, e_star3, e_lst, e_lst1, e_tup, e_tup1, e_call, e_call1, e_slot, e_slot1, e_sb, e_sb0, e_sb1, e_sb2, e_sb3, e_bs, e_bs1, e_bs2, e_lenV, e_lenV1, e_un, e_un1, e_def, e_def1, e_def2, e_def3, e_fix0, e_fix1, e_fix2, e_def4, e_def0, e_def01, e_jNil, e_jVal, e_jVal1, e_j2, e_jIo, e_jIo1, e_itD0, e_itD1, e_itD2, e_itD3, e_itJ0, e_itJ1, e_itJ2, e_itP0, e_itP1, e_itP2, e_setMany0, e_setMany1, e_nodup0, e_nodup1, e_noPart, e_part, e_part1, e_slice, e_slice1, e_slice2, e_slice3, e_lstRg, e_lstRg1, e_lstRg2, e_iSeq, e_iSeq1, e_iSeq2, e_iEn, e_iEn1, e_iEn2, e_iR1, e_iR11, e_iR2, e_iR21, e_yes, e_lc, e_lc1, e_lc2, e_wipe0, e_wipe1, e_back0, e_back1, e_back2, e_noneOwn0, e_noneOwn1, e_noneOwn2, e_noneOwn3, e_noneOwn4, e_name, e_set, e_tNil, e_tCons, e_tCons1, e_tTup, e_seq, e_seq1, e_seq2, e_seq3, e_seq4, e_seq5, e_next, e_break, e_cont, e_expr, e_expr1, e_ret, e_ret1, e_sIf, e_sIf1, e_sIf2, e_asg, e_asg1, e_asg2, e_aug, e_aug0, e_aug1, e_aug2, e_aug3, e_par, e_par1, e_par2, e_app, e_app0, e_app1, e_app2, e_setIx, e_setIx0, e_setIx1, e_setIx2, e_setIx3, e_setIx4, e_match, e_match1, e_mCase, e_mAny, e_raise, e_for, e_body, e_body1, e_body2, e_body3, e_body4, e_body5, e_outs0, e_outs1, e_outs2, e_start0, e_start1, e_addI, e_addL, e_addI2, e_sub, e_cmp, e_eqI, e_neI, e_eqB, e_isN0, e_isN1, e_isN2, e_isN3, e_notN0, e_notN1, e_notN2, e_notN3, e_int, e_intB, e_max, e_min, e_neg, e_bits, e_lenL, e_lenT, e_lenS, e_ixL, e_ixT, e_ixS, e_at0, e_at1, e_at2, e_map, e_lstOf, e_lstOfS, e_seqOf, e_seqOfT, e_seqOfS, e_isiIB, e_isiII, e_isiTT, e_isiLL, l, t1, t2]
  simp [rM, e_tUnl, e_ext, e_ext0, e_ext1, e_ext2, e_dix, e_dix1, e_dix2, e_look, e_rev, e_rev1, e_lr1, e_lr11, e_isE1, e_isE2, e_isE3, e_isE4, e_isE5, e_isE6, e_try, e_try1, e_try2, e_eqAS, e_neAS, e_eqAI, e_neAI, e_bind_ok, e_bind_exc, e_bind_stk, e_var, e_var1, e_var2, e_move, e_move1, e_move2, e_C, e_fin1, e_bin, e_bin1, e_bin2, e_chain, e_chain1, e_chain2, e_chain3, e_chain4, e_chain5, e_if, e_if1, e_if2, e_tv, e_tv1, e_notT, e_notT1, e_andT, e_andT1, e_andT2, e_orT, e_orT1, e_orT2, e_andV, e_andV1, e_andV2, e_orV, e_orV1, e_orV2, e_notV, e_notV1, e_aNil, e_aCons, e_aCons1, e_aCons2, e_star, e_star1, e_star2, e_star3, e_lst, e_lst1, e_tup, e_tup1, e_call, e_call1, e_slot, e_slot1, e_sb, e_sb0, e_sb1, e_sb2, e_sb3, e_bs, e_bs1, e_bs2, e_lenV, e_lenV1, e_un, e_un1, e_def, e_def1, e_def2, e_def3, e_fix0, e_fix1, e_fix2, e_def4, e_def0, e_def01, e_jNil, e_jVal, e_jVal1, e_j2, e_jIo, e_jIo1, e_itD0, e_itD1, e_itD2, e_itD3, e_itJ0, e_itJ1, e_itJ2, e_itP0, e_itP1, e_itP2, e_setMany0, e_setMany1, e_nodup0, e_nodup1, e_noPart, e_part, e_part1, e_slice, e_slice1, e_slice2, e_slice3, e_lstRg, e_lstRg1, e_lstRg2, e_iSeq, e_iSeq1, e_iSeq2, e_iEn, e_iEn1, e_iEn2, e_iR1, e_iR11, e_iR2, e_iR21, e_yes, e_lc, e_lc1, e_lc2, e_wipe0, e_wipe1, e_back0, e_back1, e_back2, e_noneOwn0, e_noneOwn1, e_noneOwn2, e_noneOwn3, e_noneOwn4, e_name, e_set, e_tNil, e_tCons, e_tCons1, e_tTup, e_seq, e_seq1, e_seq2, e_seq3, e_seq4, e_seq5, e_next, e_break, e_cont, e_expr, e_expr1, e_ret, e_ret1, e_sIf, e_sIf1, e_sIf2, e_asg, e_asg1, e_asg2, e_aug, e_aug0, e_aug1, e_aug2, e_aug3, e_par, e_par1, e_par2, e_app, e_app0, e_app1, e_app2, e_setIx, e_setIx0, e_setIx1, e_setIx2, e_setIx3, e_setIx4, e_match, e_match1, e_mCase, e_mAny, e_raise, e_for, e_body, e_body1, e_body2, e_body3, e_body4, e_body5, e_outs0, e_outs1, e_outs2, e_start0, e_start1, e_addI, e_addL, e_addI2, e_sub, e_cmp, e_eqI, e_neI, e_eqB, e_isN0, e_isN1, e_isN2, e_isN3, e_notN0, e_notN1, e_notN2, e_notN3, e_int, e_intB, e_max, e_min, e_neg, e_bits, e_lenL, e_lenT, e_lenS, e_ixL, e_ixT, e_ixS, e_at0, e_at1, e_at2, e_map, e_lstOf, e_lstOfS, e_seqOf, e_seqOfT, e_seqOfS, e_isiIB, e_isiII, e_isiTT, e_isiLL, lc, l1, l2, tw, ne]
theorem rN_ok (m : Mt d1 n1 d2 n2 e z) (hd1 : d1 < 100) (hd2 : d2 < 100) (x2 x4 x5 : Option (Bool × D)) :
    rN [x0, x1, x2, x3, x4, x5, x6, x7, x8, x9, x10, x11, x12, some (false, PyData.str (beg e z)), some (false, PyData.list ([.str (beg d1 n1), .str (beg d2 n2)])), none, none, none, none, none, none] = .ok .nx [x0, x1, x2, x3, x4, x5, x6, x7, x8, x9, x10, x11, x12, some (false, PyData.str (beg e z)), some (false, PyData.list ([.str (beg d1 n1), .str (beg d2 n2)])), none, none, none, none, none, none] := by
  have mn := min_nat d1 d2
  have m1 := m.e1
  have m2 := m.e2
  have l := len_beg e z (by omega)
  have k1 := len_beg d1 n1 (by omega)
  have k2 := len_beg d2 n2 (by omega)
  by_cases c : e < min d1 d2
  · have a1 := beg_at n1 e (show e < d1 by omega) (by omega)
    have a2 := beg_at n2 e (show e < d2 by omega) (by omega)
    have np := m.pt c
    have ns : ¬ (⟨#[sgn (bt n1 (d1 - 1 - e))]⟩ : Str) = ⟨#[sgn (bt n2 (d2 - 1 - e))]⟩ := fun q => np (sgn_inj (bt_01 _ _) (bt_01 _ _) q)
    have cI : ((e : Int) < ((min d1 d2 : Nat) : Int)) := by omega
    generalize (⟨#[sgn (bt n1 (d1 - 1 - e))]⟩ : Str) = L1 at *
    generalize (⟨#[sgn (bt n2 (d2 - 1 - e))]⟩ : Str) = L2 at *
    generalize ((min d1 d2 : Nat) : Int) = MI at *
    generalize (e : Int) = EI at *
    generalize (d1 : Int) = D1 at *
    generalize (d2 : Int) = D2 at *
    generalize beg e z = B at *
    generalize beg d1 n1 = B1 at *
    generalize beg d2 n2 = B2 at *
    simp [rN, e_tUnl, e_ext, e_ext0, e_ext1, e_ext2, e_dix, e_dix1, e_dix2, e_look, e_rev, e_rev1, e_lr1, e_lr11, e_isE1, e_isE2, e_isE3, e_isE4, e_isE5, e_isE6, e_try, e_try1, e_try2, e_eqAS, e_neAS, e_eqAI, e_neAI, e_bind_ok, e_bind_exc, e_bind_stk, e_var, e_var1, e_var2, e_move, e_move1, e_move2, e_C, e_fin1, e_bin, e_bin1, e_bin2, e_chain, e_chain1, e_chain2, e_chain3, e_chain4, e_chain5, e_if, e_if1, e_if2, e_tv, e_tv1, e_notT, e_notT1, e_andT, e_andT1, e_andT2, e_orT, e_orT1, e_orT2, e_andV, e_andV1, e_andV2, e_orV, e_orV1, e_orV2, e_notV, e_notV1, e_aNil, e_aCons, e_aCons1, e_aCons2, e_star, e_star1, e_star2, e_star3, e_lst, e_lst1, e_tup, e_tup1, e_call, e_call1, e_slot, e_slot1, e_sb, e_sb0, e_sb1, e_sb2, e_sb3, e_bs, e_bs1, e_bs2, e_lenV, e_lenV1, e_un, e_un1, e_def, e_def1, e_def2, e_def3, e_fix0, e_fix1, e_fix2, e_def4, e_def0, e_def01, e_jNil, e_jVal, e_jVal1, e_j2, e_jIo, e_jIo1, e_itD0, e_itD1, e_itD2, e_itD3, e_itJ0, e_itJ1, e_itJ2, e_itP0, e_itP1, e_itP2, e_setMany0, e_setMany1, e_nodup0, e_nodup1, e_noPart, e_part, e_part1, e_slice, e_slice1, e_slice2, e_slice3, e_lstRg, e_lstRg1, e_lstRg2, e_iSeq, e_iSeq1, e_iSeq2, e_iEn, e_iEn1, e_iEn2, e_iR1, e_iR11, e_iR2, e_iR21, e_yes, e_lc, e_lc1, e_lc2, e_wipe0, e_wipe1, e_back0, e_back1, e_back2, e_noneOwn0, e_noneOwn1, e_noneOwn2, e_noneOwn3, e_noneOwn4, e_name, e_set, e_tNil, e_tCons, e_tCons1, e_tTup, e_seq, e_seq1, e_seq2, e_seq3, e_seq4, e_seq5, e_next, e_break, e_cont, e_expr, e_expr1, e_ret, e_ret1, e_sIf, e_sIf1, e_sIf2, e_asg, e_asg1, e_asg2, e_aug, e_aug0, e_aug1, e_aug2, e_aug3, e_par, e_par1, e_par2, e_app, e_app0, e_app1, e_app2, e_setIx, e_setIx0, e_setIx1, e_setIx2, e_setIx3, e_setIx4, e_match, e_match1, e_mCase, e_mAny, e_raise, e_for, e_body, e_body1, e_body2, e_body3, e_body4, e_body5, e_outs0, e_outs1, e_outs2, e_start0, e_start1, e_addI, e_addL, e_addI2, e_sub, e_cmp, e_eqI, e_neI, e_eqB, e_isN0, e_isN1, e_isN2, e_isN3, e_notN0, e_notN1, e_notN2, e_notN3, e_int, e_intB, e_max, e_min, e_neg, e_bits, e_lenL, e_lenT, e_lenS, e_ixL, e_ixT, e_ixS, e_at0, e_at1, e_at2, e_map, e_lstOf, e_lstOfS, e_seqOf, e_seqOfT, e_seqOfS, e_isiIB, e_isiII, e_isiTT, e_isiLL, l, k1, k2, mn, cI, a1, a2, ns, -e_min, -e_lenS]
  · have cI : ¬ ((e : Int) < ((min d1 d2 : Nat) : Int)) := by omega
    generalize ((min d1 d2 : Nat) : Int) = MI at *
    generalize (e : Int) = EI at *
    generalize (d1 : Int) = D1 at *
    generalize (d2 : Int) = D2 at *
    generalize beg e z = B at *
    generalize beg d1 n1 = B1 at *
    generalize beg d2 n2 = B2 at *
    simp [rN, e_tUnl, e_ext, e_ext0, e_ext1, e_ext2, e_dix, e_dix1, e_dix2, e_look, e_rev, e_rev1, e_lr1, e_lr11, e_isE1, e_isE2, e_isE3, e_isE4, e_isE5, e_isE6, e_try, e_try1, e_try2, e_eqAS, e_neAS, e_eqAI, e_neAI, e_bind_ok, e_bind_exc, e_bind_stk, e_var, e_var1, e_var2, e_move, e_move1, e_move2, e_C, e_fin1, e_bin, e_bin1, e_bin2, e_chain, e_chain1, e_chain2, e_chain3, e_chain4, e_chain5, e_if, e_if1, e_if2, e_tv, e_tv1, e_notT, e_notT1, e_andT, e_andT1, e_andT2, e_orT, e_orT1, e_orT2, e_andV, e_andV1, e_andV2, e_orV, e_orV1, e_orV2, e_notV, e_notV1, e_aNil, e_aCons, e_aCons1, e_aCons2, e_star, e_star1, e_star2, e_star3, e_lst, e_lst1, e_tup, e_tup1, e_call, e_call1, e_slot, e_slot1, e_sb, e_sb0, e_sb1, e_sb2, e_sb3, e_bs, e_bs1, e_bs2, e_lenV, e_lenV1, e_un, e_un1, e_def, e_def1, e_def2, e_def3, e_fix0, e_fix1, e_fix2, e_def4, e_def0, e_def01, e_jNil, e_jVal, e_jVal1, e_j2, e_jIo, e_jIo1, e_itD0, e_itD1, e_itD2, e_itD3, e_itJ0, e_itJ1, e_itJ2, e_itP0, e_itP1, e_itP2, e_setMany0, e_setMany1, e_nodup0, e_nodup1, e_noPart, e_part, e_part1, e_slice, e_slice1, e_slice2, e_slice3, e_lstRg, e_lstRg1, e_lstRg2, e_iSeq, e_iSeq1, e_iSeq2, e_iEn, e_iEn1, e_iEn2, e_iR1, e_iR11, e_iR2, e_iR21, e_yes, e_lc, e_lc1, e_lc2, e_wipe0, e_wipe1, e_back0, e_back1, e_back2, e_noneOwn0, e_noneOwn1, e_noneOwn2, e_noneOwn3, e_noneOwn4, e_name, e_set, e_tNil, e_tCons, e_tCons1, e_tTup, e_seq, e_seq1, e_seq2, e_seq3, e_seq4, e_seq5, e_next, e_break, e_cont, e_expr, e_expr1, e_ret, e_ret1, e_sIf, e_sIf1, e_sIf2, e_asg, e_asg1, e_asg2, e_aug, e_aug0, e_aug1, e_aug2, e_aug3, e_par, e_par1, e_par2, e_app, e_app0, e_app1, e_app2, e_setIx, e_setIx0, e_setIx1, e_setIx2, e_setIx3, e_setIx4, e_match, e_match1, e_mCase, e_mAny, e_raise, e_for, e_body, e_body1, e_body2, e_body3, e_body4, e_body5, e_outs0, e_outs1, e_outs2, e_start0, e_start1, e_addI, e_addL, e_addI2, e_sub, e_cmp, e_eqI, e_neI, e_eqB, e_isN0, e_isN1, e_isN2, e_isN3, e_notN0, e_notN1, e_notN2, e_notN3, e_int, e_intB, e_max, e_min, e_neg, e_bits, e_lenL, e_lenT, e_lenS, e_ixL, e_ixT, e_ixS, e_at0, e_at1, e_at2, e_map, e_lstOf, e_lstOfS, e_seqOf, e_seqOfT, e_seqOfS, e_isiIB, e_isiII, e_isiTT, e_isiLL, l, k1, k2, mn, cI, -e_min, -e_lenS]
end
end SM
namespace SM
open PySem PySem.Spec DL
open PyProof.Rows hiding St
def zss8 (d1 n1 d2 n2 : Nat) (zs : Zs) : List Zs := [wayP d1 n1, wayP d2 n2, [(d1, n1), (d2, n2)], [(d2, n2), (d1, n1)], [], [(d1, n1)], (wayP d1 n1).reverse, zs]
theorem zss8_ok {d1 n1 d2 n2 : Nat} {zs : Zs} (hd1 : d1 < 100) (hd2 : d2 < 100) (h1 : n1 < 2 ^ d1) (h2 : n2 < 2 ^ d2) (hz : ZsOK zs) : ∀ x ∈ zss8 d1 n1 d2 n2 zs, ZsOK x := by
  have i1 : InX (d1, n1) := ⟨hd1, h1⟩
  have i2 : InX (d2, n2) := ⟨hd2, h2⟩
  have w1 := wayP_ok hd1 h1
  have w2 := wayP_ok hd2 h2
  intro x hx
  simp only [zss8, List.mem_cons, List.not_mem_nil, or_false] at hx
  rcases hx with rfl | rfl | rfl | rfl | rfl | rfl | rfl | rfl
  · exact w1
  · exact w2
  · exact ⟨fun z hz => by simp only [List.mem_cons, List.not_mem_nil, or_false] at hz; rcases hz with rfl | rfl <;> assumption, by simp⟩
  · exact ⟨fun z hz => by simp only [List.mem_cons, List.not_mem_nil, or_false] at hz; rcases hz with rfl | rfl <;> assumption, by simp⟩
  · exact ⟨fun z hz => absurd hz (by simp), by simp⟩
  · exact ⟨fun z hz => by simp only [List.mem_cons, List.not_mem_nil, or_false] at hz; subst hz; assumption, by simp⟩
  · exact ⟨fun z hz => w1.1 z (List.mem_reverse.mp hz), by rw [List.length_reverse]; exact w1.2⟩
  · exact hz
theorem zipD_map {α : Type} (f g : α → D) : ∀ xs : List α, zipD (xs.map f) (xs.map g) = xs.map fun x => .tuple [f x, g x]
  | [] => rfl
  | x :: r => by
    show PyData.tuple [f x, g x] :: zipD (r.map f) (r.map g) = _
    rw [zipD_map f g r]
    rfl
section
variable {x0 x1 x2 x3 x4 x5 : Option (Bool × D)} {d1 n1 d2 n2 : Nat} {zs : Zs}
theorem rC_ok (hd1 : d1 < 100) (hd2 : d2 < 100) : ∃ ws : List D, (∀ zs : Zs, ws ++ [zl zs] = (zss8 d1 n1 d2 n2 zs).map zl) ∧ ws.length = 7 ∧ rC [x0, x1, x2, x3, some (false, nd d1 n1), some (false, nd d2 n2), none, none, none, none, none, none, none, none, none, none, none, none, none, none, none] = .ok .nx [x0, x1, x2, x3, some (false, nd d1 n1), some (false, nd d2 n2), some (true, .list ws), none, none, none, none, none, none, none, none, none, none, none, none, none, none] := by
  have w1 := way_okZ (n := n1) hd1
  have w2 := way_okZ (n := n2) hd2
  have l7 := l7
  have l2 := l2
  have l1 := l1
  have l0 := l0
  refine ⟨[.list ((wayP d1 n1).map nzX), .list ((wayP d2 n2).map nzX), .list [nd d1 n1, nd d2 n2], .list [nd d2 n2, nd d1 n1], .list [], .list [nd d1 n1], .list ((wayP d1 n1).map nzX).reverse], fun zs => ?_, rfl, ?_⟩
  · simp only [zss8, List.map_cons, List.map_nil, zl, List.map_reverse]
    rfl
  · simp only [zl] at w1 w2
    generalize (wayP d1 n1).map nzX = W1 at *
    generalize (wayP d2 n2).map nzX = W2 at *
    generalize nd d1 n1 = N1 at *
    generalize nd d2 n2 = N2 at *
    simp [rC, e_tUnl, e_ext, e_ext0, e_ext1, e_ext2, e_dix, e_dix1, e_dix2, e_look, e_rev, e_rev1, e_lr1, e_lr11, e_isE1, e_isE2, e_isE3, e_isE4, e_isE5, e_isE6, e_try, e_try1, e_try2, e_eqAS, e_neAS, e_eqAI, e_neAI, e_bind_ok, e_bind_exc, e_bind_stk, e_var, e_var1, e_var2, e_move, e_move1, e_move2, e_C, e_fin1, e_bin, e_bin1, e_bin2, e_chain, e_chain1, e_chain2, e_chain3, e_chain4, e_chain5, e_if, e_if1, e_if2, e_tv, e_tv1, e_notT, e_notT1, e_andT, e_andT1, e_andT2, e_orT, e_orT1, e_orT2, e_andV, e_andV1, e_andV2, e_orV, e_orV1, e_orV2, e_notV, e_notV1, e_aNil, e_aCons, e_aCons1, e_aCons2, e_star, e_star1, e_star2, e_star3, e_lst, e_lst1, e_tup, e_tup1, e_call, e_call1, e_slot, e_slot1, e_sb, e_sb0, e_sb1, e_sb2, e_sb3, e_bs, e_bs1, e_bs2, e_lenV, e_lenV1, e_un, e_un1, e_def, e_def1, e_def2, e_def3, e_fix0, e_fix1, e_fix2, e_def4, e_def0, e_def01, e_jNil, e_jVal, e_jVal1, e_j2, e_jIo, e_jIo1, e_itD0, e_itD1, e_itD2, e_itD3, e_itJ0, e_itJ1, e_itJ2, e_itP0, e_itP1, e_itP2, e_setMany0, e_setMany1, e_nodup0, e_nodup1, e_noPart, e_part, e_part1, e_slice, e_slice1, e_slice2, e_slice3, e_lstRg, e_lstRg1, e_lstRg2, e_iSeq, e_iSeq1, e_iSeq2, e_iEn, e_iEn1, e_iEn2, e_iR1, e_iR11, e_iR2, e_iR21, e_yes, e_lc, e_lc1, e_lc2, e_wipe0, e_wipe1, e_back0, e_back1, e_back2, e_noneOwn0, e_noneOwn1, e_noneOwn2, e_noneOwn3, e_noneOwn4, e_name, e_set, e_tNil, e_tCons, e_tCons1, e_tTup, e_seq, e_seq1, e_seq2, e_seq3, e_seq4, e_seq5, e_next, e_break, e_cont, e_expr, e_expr1, e_ret, e_ret1, e_sIf, e_sIf1, e_sIf2, e_asg, e_asg1, e_asg2, e_aug, e_aug0, e_aug1, e_aug2, e_aug3, e_par, e_par1, e_par2, e_app, e_app0, e_app1, e_app2, e_setIx, e_setIx0, e_setIx1, e_setIx2, e_setIx3, e_setIx4, e_match, e_match1, e_mCase, e_mAny, e_raise, e_for, e_body, e_body1, e_body2, e_body3, e_body4, e_body5, e_outs0, e_outs1, e_outs2, e_start0, e_start1, e_addI, e_addL, e_addI2, e_sub, e_cmp, e_eqI, e_neI, e_eqB, e_isN0, e_isN1, e_isN2, e_isN3, e_notN0, e_notN1, e_notN2, e_notN3, e_int, e_intB, e_max, e_min, e_neg, e_bits, e_lenL, e_lenT, e_lenS, e_ixL, e_ixT, e_ixS, e_at0, e_at1, e_at2, e_map, e_lstOf, e_lstOfS, e_seqOf, e_seqOfT, e_seqOfS, e_isiIB, e_isiII, e_isiTT, e_isiLL, w1, w2, l7, l2, l1, l0]
theorem rE_ok {zss : List Zs} (h : ∀ zs ∈ zss, ZsOK zs) (hl : zss.length ≤ 1000) :
    rE [x0, x1, x2, x3, x4, x5, some (true, .list (zss.map zl)), none, none, none, none, none, none, none, none, none, none, none, none, none, none] = .ok .nx [x0, x1, x2, x3, x4, x5, some (false, PyData.list (zss.map zl)), some (true, .list (zss.map zt)), none, none, none, none, none, none, none, none, none, none, none, none, none] := by
  have lc := lcD_filmap (vs := [8]) (tgt := gtName [0] 8) (gt := gYes) (ge := ce_right_2) (δ := [x0, x1, x2, x3, x4, x5, some (false, PyData.list (zss.map zl)), none, none, none, none, none, none, none, none, none, none, none, none, none, none]) zl (fun _ => true) zt (ps := zss) [] (by
    intro y hy
    have y1 := h y hy
    have e := show_nodes_ok y y1.1 y1.2
    have e : m_show_nodes [zl y] = .ok (zt y, false) [] := e
    generalize zt y = B at *
    generalize zl y = A at *
    generalize zss.map zl = LS at *
    refine ⟨[x0, x1, x2, x3, x4, x5, some (false, PyData.list (LS)), none, some (false, A), none, none, none, none, none, none, none, none, none, none, none, none], _, by simp [e_tUnl, e_ext, e_ext0, e_ext1, e_ext2, e_dix, e_dix1, e_dix2, e_look, e_rev, e_rev1, e_lr1, e_lr11, e_isE1, e_isE2, e_isE3, e_isE4, e_isE5, e_isE6, e_try, e_try1, e_try2, e_eqAS, e_neAS, e_eqAI, e_neAI, e_bind_ok, e_bind_exc, e_bind_stk, e_var, e_var1, e_var2, e_move, e_move1, e_move2, e_C, e_fin1, e_bin, e_bin1, e_bin2, e_chain, e_chain1, e_chain2, e_chain3, e_chain4, e_chain5, e_if, e_if1, e_if2, e_tv, e_tv1, e_notT, e_notT1, e_andT, e_andT1, e_andT2, e_orT, e_orT1, e_orT2, e_andV, e_andV1, e_andV2, e_orV, e_orV1, e_orV2, e_notV, e_notV1, e_aNil, e_aCons, e_aCons1, e_aCons2, e_star, e_star1, e_star2, e_star3, e_lst, e_lst1, e_tup, e_tup1, e_call, e_call1, e_slot, e_slot1, e_sb, e_sb0, e_sb1, e_sb2, e_sb3, e_bs, e_bs1, e_bs2, e_lenV, e_lenV1, e_un, e_un1, e_def, e_def1, e_def2, e_def3, e_fix0, e_fix1, e_fix2, e_def4, e_def0, e_def01, e_jNil, e_jVal, e_jVal1, e_j2, e_jIo, e_jIo1, e_itD0, e_itD1, e_itD2, e_itD3, e_itJ0, e_itJ1, e_itJ2, e_itP0, e_itP1, e_itP2, e_setMany0, e_setMany1, e_nodup0, e_nodup1, e_noPart, e_part, e_part1, e_slice, e_slice1, e_slice2, e_slice3, e_lstRg, e_lstRg1, e_lstRg2, e_iSeq, e_iSeq1, e_iSeq2, e_iEn, e_iEn1, e_iEn2, e_iR1, e_iR11, e_iR2, e_iR21, e_yes, e_lc, e_lc1, e_lc2, e_wipe0, e_wipe1, e_back0, e_back1, e_back2, e_noneOwn0, e_noneOwn1, e_noneOwn2, e_noneOwn3, e_noneOwn4, e_name, e_set, e_tNil, e_tCons, e_tCons1, e_tTup, e_seq, e_seq1, e_seq2, e_seq3, e_seq4, e_seq5, e_next, e_break, e_cont, e_expr, e_expr1, e_ret, e_ret1, e_sIf, e_sIf1, e_sIf2, e_asg, e_asg1, e_asg2, e_aug, e_aug0, e_aug1, e_aug2, e_aug3, e_par, e_par1, e_par2, e_app, e_app0, e_app1, e_app2, e_setIx, e_setIx0, e_setIx1, e_setIx2, e_setIx3, e_setIx4, e_match, e_match1, e_mCase, e_mAny, e_raise, e_for, e_body, e_body1, e_body2, e_body3, e_body4, e_body5, e_outs0, e_outs1, e_outs2, e_start0, e_start1, e_addI, e_addL, e_addI2, e_sub, e_cmp, e_eqI, e_neI, e_eqB, e_isN0, e_isN1, e_isN2, e_isN3, e_notN0, e_notN1, e_notN2, e_notN3, e_int, e_intB, e_max, e_min, e_neg, e_bits, e_lenL, e_lenT, e_lenS, e_ixL, e_ixT, e_ixS, e_at0, e_at1, e_at2, e_map, e_lstOf, e_lstOfS, e_seqOf, e_seqOfT, e_seqOfS, e_isiIB, e_isiII, e_isiTT, e_isiLL], rfl, fun z => absurd z (by decide), fun _ => ⟨_, false, by simp [ce_right_2, e_tUnl, e_ext, e_ext0, e_ext1, e_ext2, e_dix, e_dix1, e_dix2, e_look, e_rev, e_rev1, e_lr1, e_lr11, e_isE1, e_isE2, e_isE3, e_isE4, e_isE5, e_isE6, e_try, e_try1, e_try2, e_eqAS, e_neAS, e_eqAI, e_neAI, e_bind_ok, e_bind_exc, e_bind_stk, e_var, e_var1, e_var2, e_move, e_move1, e_move2, e_C, e_fin1, e_bin, e_bin1, e_bin2, e_chain, e_chain1, e_chain2, e_chain3, e_chain4, e_chain5, e_if, e_if1, e_if2, e_tv, e_tv1, e_notT, e_notT1, e_andT, e_andT1, e_andT2, e_orT, e_orT1, e_orT2, e_andV, e_andV1, e_andV2, e_orV, e_orV1, e_orV2, e_notV, e_notV1, e_aNil, e_aCons, e_aCons1, e_aCons2, e_star, e_star1, e_star2, e_star3, e_lst, e_lst1, e_tup, e_tup1, e_call, e_call1, e_slot, e_slot1, e_sb, e_sb0, e_sb1, e_sb2, e_sb3, e_bs, e_bs1, e_bs2, e_lenV, e_lenV1, e_un, e_un1, e_def, e_def1, e_def2, e_def3, e_fix0, e_fix1, e_fix2, e_def4, e_def0, e_def01, e_jNil, e_jVal, e_jVal1, e_j2, e_jIo, e_jIo1, e_itD0, e_itD1, e_itD2, e_itD3, e_itJ0, e_itJ1, e_itJ2, e_itP0, e_itP1, e_itP2, e_setMany0, e_setMany1, e_nodup0, e_nodup1, e_noPart, e_part, e_part1, e_slice, e_slice1, e_slice2, e_slice3, e_lstRg, e_lstRg1, e_lstRg2, e_iSeq, e_iSeq1, e_iSeq2, e_iEn, e_iEn1, e_iEn2, e_iR1, e_iR11, e_iR2, e_iR21, e_yes, e_lc, e_lc1, e_lc2, e_wipe0, e_wipe1, e_back0, e_back1, e_back2, e_noneOwn0, e_noneOwn1, e_noneOwn2, e_noneOwn3, e_noneOwn4, e_name, e_set, e_tNil, e_tCons, e_tCons1, e_tTup, e_seq, e_seq1, e_seq2, e_seq3, e_seq4, e_seq5, e_next, e_break, e_cont, e_expr, e_expr1, e_ret, e_ret1, e_sIf, e_sIf1, e_sIf2, e_asg, e_asg1, e_asg2, e_aug, e_aug0, e_aug1, e_aug2, e_aug3, e_par, e_par1, e_par2, e_app, e_app0, e_app1, e_app2, e_setIx, e_setIx0, e_setIx1, e_setIx2, e_setIx3, e_setIx4, e_match, e_match1, e_mCase, e_mAny, e_raise, e_for, e_body, e_body1, e_body2, e_body3, e_body4, e_body5, e_outs0, e_outs1, e_outs2, e_start0, e_start1, e_addI, e_addL, e_addI2, e_sub, e_cmp, e_eqI, e_neI, e_eqB, e_isN0, e_isN1, e_isN2, e_isN3, e_notN0, e_notN1, e_notN2, e_notN3, e_int, e_intB, e_max, e_min, e_neg, e_bits, e_lenL, e_lenT, e_lenS, e_ixL, e_ixT, e_ixS, e_at0, e_at1, e_at2, e_map, e_lstOf, e_lstOfS, e_seqOf, e_seqOfT, e_seqOfS, e_isiIB, e_isiII, e_isiTT, e_isiLL, e]; rfl, by simp [e_tUnl, e_ext, e_ext0, e_ext1, e_ext2, e_dix, e_dix1, e_dix2, e_look, e_rev, e_rev1, e_lr1, e_lr11, e_isE1, e_isE2, e_isE3, e_isE4, e_isE5, e_isE6, e_try, e_try1, e_try2, e_eqAS, e_neAS, e_eqAI, e_neAI, e_bind_ok, e_bind_exc, e_bind_stk, e_var, e_var1, e_var2, e_move, e_move1, e_move2, e_C, e_fin1, e_bin, e_bin1, e_bin2, e_chain, e_chain1, e_chain2, e_chain3, e_chain4, e_chain5, e_if, e_if1, e_if2, e_tv, e_tv1, e_notT, e_notT1, e_andT, e_andT1, e_andT2, e_orT, e_orT1, e_orT2, e_andV, e_andV1, e_andV2, e_orV, e_orV1, e_orV2, e_notV, e_notV1, e_aNil, e_aCons, e_aCons1, e_aCons2, e_star, e_star1, e_star2, e_star3, e_lst, e_lst1, e_tup, e_tup1, e_call, e_call1, e_slot, e_slot1, e_sb, e_sb0, e_sb1, e_sb2, e_sb3, e_bs, e_bs1, e_bs2, e_lenV, e_lenV1, e_un, e_un1, e_def, e_def1, e_def2, e_def3, e_fix0, e_fix1, e_fix2, e_def4, e_def0, e_def01, e_jNil, e_jVal, e_jVal1, e_j2, e_jIo, e_jIo1, e_itD0, e_itD1, e_itD2, e_itD3, e_itJ0, e_itJ1, e_itJ2, e_itP0, e_itP1, e_itP2, e_setMany0, e_setMany1, e_nodup0, e_nodup1, e_noPart, e_part, e_part1, e_slice, e_slice1, e_slice2, e_slice3, e_lstRg, e_lstRg1, e_lstRg2, e_iSeq, e_iSeq1, e_iSeq2, e_iEn, e_iEn1, e_iEn2, e_iR1, e_iR11, e_iR2, e_iR21, e_yes, e_lc, e_lc1, e_lc2, e_wipe0, e_wipe1, e_back0, e_back1, e_back2, e_noneOwn0, e_noneOwn1, e_noneOwn2, e_noneOwn3, e_noneOwn4, e_name, e_set, e_tNil, e_tCons, e_tCons1, e_tTup, e_seq, e_seq1, e_seq2, e_seq3, e_seq4, e_seq5, e_next, e_break, e_cont, e_expr, e_expr1, e_ret, e_ret1, e_sIf, e_sIf1, e_sIf2, e_asg, e_asg1, e_asg2, e_aug, e_aug0, e_aug1, e_aug2, e_aug3, e_par, e_par1, e_par2, e_app, e_app0, e_app1, e_app2, e_setIx, e_setIx0, e_setIx1, e_setIx2, e_setIx3, e_setIx4, e_match, e_match1, e_mCase, e_mAny, e_raise, e_for, e_body, e_body1, e_body2, e_body3, e_body4, e_body5, e_outs0, e_outs1, e_outs2, e_start0, e_start1, e_addI, e_addL, e_addI2, e_sub, e_cmp, e_eqI, e_neI, e_eqB, e_isN0, e_isN1, e_isN2, e_isN3, e_notN0, e_notN1, e_notN2, e_notN3, e_int, e_intB, e_max, e_min, e_neg, e_bits, e_lenL, e_lenT, e_lenS, e_ixL, e_ixT, e_ixS, e_at0, e_at1, e_at2, e_map, e_lstOf, e_lstOfS, e_seqOf, e_seqOfT, e_seqOfS, e_isiIB, e_isiII, e_isiTT, e_isiLL]⟩⟩)
  simp only [List.nil_append, List.filter_eq_self.mpr (show ∀ a ∈ zss, (fun _ : Zs => true) a = true from fun _ _ => rfl)] at lc
  have k1 : (zss.map zl).length ≤ LINE := by rw [List.length_map]; exact lE _ hl
  generalize zss.map zl = LS at *
  generalize zss.map zt = TS at *
  simp [rE, e_tUnl, e_ext, e_ext0, e_ext1, e_ext2, e_dix, e_dix1, e_dix2, e_look, e_rev, e_rev1, e_lr1, e_lr11, e_isE1, e_isE2, e_isE3, e_isE4, e_isE5, e_isE6, e_try, e_try1, e_try2, e_eqAS, e_neAS, e_eqAI, e_neAI, e_bind_ok, e_bind_exc, e_bind_stk, e_var, e_var1, e_var2, e_move, e_move1, e_move2, e_C, e_fin1, e_bin, e_bin1, e_bin2, e_chain, e_chain1, e_chain2, e_chain3, e_chain4, e_chain5, e_if, e_if1, e_if2, e_tv, e_tv1, e_notT, e_notT1, e_andT, e_andT1, e_andT2, e_orT, e_orT1, e_orT2, e_andV, e_andV1, e_andV2, e_orV, e_orV1, e_orV2, e_notV, e_notV1, e_aNil, e_aCons, e_aCons1, e_aCons2, e_star, e_star1, e_star2, e_star3, e_lst, e_lst1, e_tup, e_tup1, e_call, e_call1, e_slot, e_slot1, e_sb, e_sb0, e_sb1, e_sb2, e_sb3, e_bs, e_bs1, e_bs2, e_lenV, e_lenV1, e_un, e_un1, e_def, e_def1, e_def2, e_def3, e_fix0, e_fix1, e_fix2, e_def4, e_def0, e_def01, e_jNil, e_jVal, e_jVal1, e_j2, e_jIo, e_jIo1, e_itD0, e_itD1, e_itD2, e_itD3, e_itJ0, e_itJ1, e_itJ2, e_itP0, e_itP1, e_itP2, e_setMany0, e_setMany1, e_nodup0, e_nodup1, e_noPart, e_part, e_part1, e_slice, e_slice1, e_slice2, e_slice3, e_lstRg, e_lstRg1, e_lstRg2, e_iSeq, e_iSeq1, e_iSeq2, e_iEn, e_iEn1, e_iEn2, e_iR1, e_iR11, e_iR2, e_iR21, e_yes, e_lc, e_lc1, e_lc2, e_wipe0, e_wipe1, e_back0, e_back1, e_back2, e_noneOwn0, e_noneOwn1, e_noneOwn2, e_noneOwn3, e_noneOwn4, e_name, e_set, e_tNil, e_tCons, e_tCons1, e_tTup, e_seq, e_seq1, e_seq2, e_seq3, e_seq4, e_seq5, e_next, e_break, e_cont, e_expr, e_expr1, e_ret, e_ret1, e_sIf, e_sIf1, e_sIf2, e_asg, e_asg1, e_asg2, e_aug, e_aug0, e_aug1, e_aug2, e_aug3, e_par, e_par1, e_par2, e_app, e_app0, e_app1, e_app2, e_setIx, e_setIx0, e_setIx1, e_setIx2, e_setIx3, e_setIx4, e_match, e_match1, e_mCase, e_mAny, e_raise, e_for, e_body, e_body1, e_body2, e_body3, e_body4, e_body5, e_outs0, e_outs1, e_outs2, e_start0, e_start1, e_addI, e_addL, e_addI2, e_sub, e_cmp, e_eqI, e_neI, e_eqB, e_isN0, e_isN1, e_isN2, e_isN3, e_notN0, e_notN1, e_notN2, e_notN3, e_int, e_intB, e_max, e_min, e_neg, e_bits, e_lenL, e_lenT, e_lenS, e_ixL, e_ixT, e_ixS, e_at0, e_at1, e_at2, e_map, e_lstOf, e_lstOfS, e_seqOf, e_seqOfT, e_seqOfS, e_isiIB, e_isiII, e_isiTT, e_isiLL, lc, k1]
theorem rF_ok {zss : List Zs} (h : ∀ zs ∈ zss, ZsOK zs) (hl : zss.length ≤ 1000) : ∃ x8 x9 : Option (Bool × D), (x8 = none ∨ ∃ b, x8 = some (false, b)) ∧
    rF [x0, x1, x2, x3, x4, x5, some (false, PyData.list (zss.map zl)), some (true, .list (zss.map zt)), none, none, none, none, none, none, none, none, none, none, none, none, none] = .ok .nx [x0, x1, x2, x3, x4, x5, some (false, PyData.list (zss.map zl)), some (false, PyData.list (zss.map zt)), x8, x9, none, none, none, none, none, none, none, none, none, none, none] := by
  have tt : ∀ (gs : List D → Sl → Option Sl) (fr : Bool) (δ : Sl) (a b : D), gtTup gs (.tuple [a, b]) fr δ = gs [a, b] δ := fun _ _ _ _ _ => rfl
  obtain ⟨δ', f, x8, x9, rfl, h8⟩ := forD_inv (tgt := gtTup (gtCons (gtName [0] 8) (gtCons (gtName [0] 9) gtNil))) (body := lb_right_1) (ds := zipD (zss.map zl) (zss.map zt)) (δ := [x0, x1, x2, x3, x4, x5, some (false, PyData.list (zss.map zl)), some (false, PyData.list (zss.map zt)), none, none, none, none, none, none, none, none, none, none, none, none, none])
    (fun i δ => ∃ x8 x9 : Option (Bool × D), δ = [x0, x1, x2, x3, x4, x5, some (false, PyData.list (zss.map zl)), some (false, PyData.list (zss.map zt)), x8, x9, none, none, none, none, none, none, none, none, none, none, none] ∧ (x8 = none ∨ ∃ b, x8 = some (false, b))) ⟨none, none, rfl, .inl rfl⟩ (by
      rintro i x δ hx ⟨x8, x9, rfl, _⟩
      rw [zipD_map] at hx
      obtain ⟨zs, hz, rfl⟩ := List.mem_map.mp (List.mem_of_getElem? hx)
      have t := turn_ok h hl hz x0 x1 x2 x3 x4 x5
      generalize zss.map zl = LS at *
      generalize zss.map zt = TS at *
      generalize zl zs = A at *
      generalize zt zs = B at *
      refine ⟨[x0, x1, x2, x3, x4, x5, some (false, PyData.list (LS)), some (false, PyData.list (TS)), some (false, A), some (false, B), none, none, none, none, none, none, none, none, none, none, none], by simp [e_tUnl, e_ext, e_ext0, e_ext1, e_ext2, e_dix, e_dix1, e_dix2, e_look, e_rev, e_rev1, e_lr1, e_lr11, e_isE1, e_isE2, e_isE3, e_isE4, e_isE5, e_isE6, e_try, e_try1, e_try2, e_eqAS, e_neAS, e_eqAI, e_neAI, e_bind_ok, e_bind_exc, e_bind_stk, e_var, e_var1, e_var2, e_move, e_move1, e_move2, e_C, e_fin1, e_bin, e_bin1, e_bin2, e_chain, e_chain1, e_chain2, e_chain3, e_chain4, e_chain5, e_if, e_if1, e_if2, e_tv, e_tv1, e_notT, e_notT1, e_andT, e_andT1, e_andT2, e_orT, e_orT1, e_orT2, e_andV, e_andV1, e_andV2, e_orV, e_orV1, e_orV2, e_notV, e_notV1, e_aNil, e_aCons, e_aCons1, e_aCons2, e_star, e_star1, e_star2, e_star3, e_lst, e_lst1, e_tup, e_tup1, e_call, e_call1, e_slot, e_slot1, e_sb, e_sb0, e_sb1, e_sb2, e_sb3, e_bs, e_bs1, e_bs2, e_lenV, e_lenV1, e_un, e_un1, e_def, e_def1, e_def2, e_def3, e_fix0, e_fix1, e_fix2, e_def4, e_def0, e_def01, e_jNil, e_jVal, e_jVal1, e_j2, e_jIo, e_jIo1, e_itD0, e_itD1, e_itD2, e_itD3, e_itJ0, e_itJ1, e_itJ2, e_itP0, e_itP1, e_itP2, e_setMany0, e_setMany1, e_nodup0, e_nodup1, e_noPart, e_part, e_part1, e_slice, e_slice1, e_slice2, e_slice3, e_lstRg, e_lstRg1, e_lstRg2, e_iSeq, e_iSeq1, e_iSeq2, e_iEn, e_iEn1, e_iEn2, e_iR1, e_iR11, e_iR2, e_iR21, e_yes, e_lc, e_lc1, e_lc2, e_wipe0, e_wipe1, e_back0, e_back1, e_back2, e_noneOwn0, e_noneOwn1, e_noneOwn2, e_noneOwn3, e_noneOwn4, e_name, e_set, e_tNil, e_tCons, e_tCons1, e_tTup, e_seq, e_seq1, e_seq2, e_seq3, e_seq4, e_seq5, e_next, e_break, e_cont, e_expr, e_expr1, e_ret, e_ret1, e_sIf, e_sIf1, e_sIf2, e_asg, e_asg1, e_asg2, e_aug, e_aug0, e_aug1, e_aug2, e_aug3, e_par, e_par1, e_par2, e_app, e_app0, e_app1, e_app2, e_setIx, e_setIx0, e_setIx1, e_setIx2, e_setIx3, e_setIx4, e_match, e_match1, e_mCase, e_mAny, e_raise, e_for, e_body, e_body1, e_body2, e_body3, e_body4, e_body5, e_outs0, e_outs1, e_outs2, e_start0, e_start1, e_addI, e_addL, e_addI2, e_sub, e_cmp, e_eqI, e_neI, e_eqB, e_isN0, e_isN1, e_isN2, e_isN3, e_notN0, e_notN1, e_notN2, e_notN3, e_int, e_intB, e_max, e_min, e_neg, e_bits, e_lenL, e_lenT, e_lenS, e_ixL, e_ixT, e_ixS, e_at0, e_at1, e_at2, e_map, e_lstOf, e_lstOfS, e_seqOf, e_seqOfT, e_seqOfS, e_isiIB, e_isiII, e_isiTT, e_isiLL, tt], _, t, _, _, rfl, .inr ⟨_, rfl⟩⟩)
  refine ⟨x8, x9, h8, ?_⟩
  have k1 : (zipD (zss.map zl) (zss.map zt)).length ≤ LINE := by rw [zipD_map, List.length_map]; exact lE _ hl
  have zz : giZip (gVar 6) (gVar 7) [x0, x1, x2, x3, x4, x5, some (false, PyData.list (zss.map zl)), some (true, .list (zss.map zt)), none, none, none, none, none, none, none, none, none, none, none, none, none] = .ok (zipD (zss.map zl) (zss.map zt)) [x0, x1, x2, x3, x4, x5, some (false, PyData.list (zss.map zl)), some (false, PyData.list (zss.map zt)), none, none, none, none, none, none, none, none, none, none, none, none, none] := by
    generalize zss.map zl = LS at *
    generalize zss.map zt = TS at *
    unfold giZip
    simp [e_tUnl, e_ext, e_ext0, e_ext1, e_ext2, e_dix, e_dix1, e_dix2, e_look, e_rev, e_rev1, e_lr1, e_lr11, e_isE1, e_isE2, e_isE3, e_isE4, e_isE5, e_isE6, e_try, e_try1, e_try2, e_eqAS, e_neAS, e_eqAI, e_neAI, e_bind_ok, e_bind_exc, e_bind_stk, e_var, e_var1, e_var2, e_move, e_move1, e_move2, e_C, e_fin1, e_bin, e_bin1, e_bin2, e_chain, e_chain1, e_chain2, e_chain3, e_chain4, e_chain5, e_if, e_if1, e_if2, e_tv, e_tv1, e_notT, e_notT1, e_andT, e_andT1, e_andT2, e_orT, e_orT1, e_orT2, e_andV, e_andV1, e_andV2, e_orV, e_orV1, e_orV2, e_notV, e_notV1, e_aNil, e_aCons, e_aCons1, e_aCons2, e_star, e_star1, e_star2, e_star3, e_lst, e_lst1, e_tup, e_tup1, e_call, e_call1, e_slot, e_slot1, e_sb, e_sb0, e_sb1, e_sb2, e_sb3, e_bs, e_bs1, e_bs2, e_lenV, e_lenV1, e_un, e_un1, e_def, e_def1, e_def2, e_def3, e_fix0, e_fix1, e_fix2, e_def4, e_def0, e_def01, e_jNil, e_jVal, e_jVal1, e_j2, e_jIo, e_jIo1, e_itD0, e_itD1, e_itD2, e_itD3, e_itJ0, e_itJ1, e_itJ2, e_itP0, e_itP1, e_itP2, e_setMany0, e_setMany1, e_nodup0, e_nodup1, e_noPart, e_part, e_part1, e_slice, e_slice1, e_slice2, e_slice3, e_lstRg, e_lstRg1, e_lstRg2, e_iSeq, e_iSeq1, e_iSeq2, e_iEn, e_iEn1, e_iEn2, e_iR1, e_iR11, e_iR2, e_iR21, e_yes, e_lc, e_lc1, e_lc2, e_wipe0, e_wipe1, e_back0, e_back1, e_back2, e_noneOwn0, e_noneOwn1, e_noneOwn2, e_noneOwn3, e_noneOwn4, e_name, e_set, e_tNil, e_tCons, e_tCons1, e_tTup, e_seq, e_seq1, e_seq2, e_seq3, e_seq4, e_seq5, e_next, e_break, e_cont, e_expr, e_expr1, e_ret, e_ret1, e_sIf, e_sIf1, e_sIf2, e_asg, e_asg1, e_asg2, e_aug, e_aug0, e_aug1, e_aug2, e_aug3, e_par, e_par1, e_par2, e_app, e_app0, e_app1, e_app2, e_setIx, e_setIx0, e_setIx1, e_setIx2, e_setIx3, e_setIx4, e_match, e_match1, e_mCase, e_mAny, e_raise, e_for, e_body, e_body1, e_body2, e_body3, e_body4, e_body5, e_outs0, e_outs1, e_outs2, e_start0, e_start1, e_addI, e_addL, e_addI2, e_sub, e_cmp, e_eqI, e_neI, e_eqB, e_isN0, e_isN1, e_isN2, e_isN3, e_notN0, e_notN1, e_notN2, e_notN3, e_int, e_intB, e_max, e_min, e_neg, e_bits, e_lenL, e_lenT, e_lenS, e_ixL, e_ixT, e_ixS, e_at0, e_at1, e_at2, e_map, e_lstOf, e_lstOfS, e_seqOf, e_seqOfT, e_seqOfS, e_isiIB, e_isiII, e_isiTT, e_isiLL, lstOf]
  generalize hZ : zipD (zss.map zl) (zss.map zt) = ZZ at *
  generalize zss.map zl = LS at *
  generalize zss.map zt = TS at *
  simp [rF, e_tUnl, e_ext, e_ext0, e_ext1, e_ext2, e_dix, e_dix1, e_dix2, e_look, e_rev, e_rev1, e_lr1, e_lr11, e_isE1, e_isE2, e_isE3, e_isE4, e_isE5, e_isE6, e_try, e_try1, e_try2, e_eqAS, e_neAS, e_eqAI, e_neAI, e_bind_ok, e_bind_exc, e_bind_stk, e_var, e_var1, e_var2, e_move, e_move1, e_move2, e_C, e_fin1, e_bin, e_bin1, e_bin2, e_chain, e_chain1, e_chain2, e_chain3, e_chain4, e_chain5, e_if, e_if1, e_if2, e_tv, e_tv1, e_notT, e_notT1, e_andT, e_andT1, e_andT2, e_orT, e_orT1, e_orT2, e_andV, e_andV1, e_andV2, e_orV, e_orV1, e_orV2, e_notV, e_notV1, e_aNil, e_aCons, e_aCons1, e_aCons2, e_star, e_star1, e_star2, e_star3, e_lst, e_lst1, e_tup, e_tup1, e_call, e_call1, e_slot, e_slot1, e_sb, e_sb0, e_sb1, e_sb2, e_sb3, e_bs, e_bs1, e_bs2, e_lenV, e_lenV1, e_un, e_un1, e_def, e_def1, e_def2, e_def3, e_fix0, e_fix1, e_fix2, e_def4, e_def0, e_def01, e_jNil, e_jVal, e_jVal1, e_j2, e_jIo, e_jIo1, e_itD0, e_itD1, e_itD2, e_itD3, e_itJ0, e_itJ1, e_itJ2, e_itP0, e_itP1, e_itP2, e_setMany0, e_setMany1, e_nodup0, e_nodup1, e_noPart, e_part, e_part1, e_slice, e_slice1, e_slice2, e_slice3, e_lstRg, e_lstRg1, e_lstRg2, e_iSeq, e_iSeq1, e_iSeq2, e_iEn, e_iEn1, e_iEn2, e_iR1, e_iR11, e_iR2, e_iR21, e_yes, e_lc, e_lc1, e_lc2, e_wipe0, e_wipe1, e_back0, e_back1, e_back2, e_noneOwn0, e_noneOwn1, e_noneOwn2, e_noneOwn3, e_noneOwn4, e_name, e_set, e_tNil, e_tCons, e_tCons1, e_tTup, e_seq, e_seq1, e_seq2, e_seq3, e_seq4, e_seq5, e_next, e_break, e_cont, e_expr, e_expr1, e_ret, e_ret1, e_sIf, e_sIf1, e_sIf2, e_asg, e_asg1, e_asg2, e_aug, e_aug0, e_aug1, e_aug2, e_aug3, e_par, e_par1, e_par2, e_app, e_app0, e_app1, e_app2, e_setIx, e_setIx0, e_setIx1, e_setIx2, e_setIx3, e_setIx4, e_match, e_match1, e_mCase, e_mAny, e_raise, e_for, e_body, e_body1, e_body2, e_body3, e_body4, e_body5, e_outs0, e_outs1, e_outs2, e_start0, e_start1, e_addI, e_addL, e_addI2, e_sub, e_cmp, e_eqI, e_neI, e_eqB, e_isN0, e_isN1, e_isN2, e_isN3, e_notN0, e_notN1, e_notN2, e_notN3, e_int, e_intB, e_max, e_min, e_neg, e_bits, e_lenL, e_lenT, e_lenS, e_ixL, e_ixT, e_ixS, e_at0, e_at1, e_at2, e_map, e_lstOf, e_lstOfS, e_seqOf, e_seqOfT, e_seqOfS, e_isiIB, e_isiII, e_isiTT, e_isiLL, zz, f, k1]
end
end SM
namespace SM
open PySem PySem.Spec DL
open PyProof.Rows hiding St
section
variable {x0 x1 x6 x8 x9 x10 x11 x12 x13 x14 : Option (Bool × D)} {d1 n1 d2 n2 h : Nat} {zs : Zs} {q : Kd}
theorem rO_ok (hd1 : d1 < h) (hd2 : d2 < h) (hh : h ≤ 100) (h1 : n1 < 2 ^ d1) (h2 : n2 < 2 ^ d2) :
    rO [x0, x1, some (false, PyData.int ((h : Nat))), some (false, PyData.str (kn q)), some (false, nd d1 n1), some (false, nd d2 n2), x6, some (false, PyData.list ((zss8 d1 n1 d2 n2 zs).map zt)), x8, x9, x10, x11, x12, x13, x14, none, none, none, none, none, none] = .ok .nx [x0, x1, some (false, PyData.int ((h : Nat))), some (false, PyData.str (kn q)), some (false, nd d1 n1), some (false, nd d2 n2), x6, some (false, PyData.list ((zss8 d1 n1 d2 n2 zs).map zt)), x8, x9, x10, x11, x12, x13, x14, some (true, .list [.int (sp q h d1 n1 : Nat), .int (sp q h d2 n2 : Nat)]), none, none, none, none, none] := by
  have ix : dIx (.list ((zss8 d1 n1 d2 n2 zs).map zt)) (.int 2) = some (zt [(d1, n1), (d2, n2)], false) := id rfl
  have i1 : InX (d1, n1) := ⟨by show d1 < 100; omega, h1⟩
  have i2 : InX (d2, n2) := ⟨by show d2 < 100; omega, h2⟩
  have rd := read_nodes_ok [(d1, n1), (d2, n2)] (fun z hz => by simp only [List.mem_cons, List.not_mem_nil, or_false] at hz; rcases hz with rfl | rfl <;> assumption) (by simp)
  have rd : m_read_nodes [zt [(d1, n1), (d2, n2)]] = .ok (.list [nd d1 n1, nd d2 n2], true) [] := rd
  have p1 := place_of_ok q h d1 n1 hd1 hh h1
  have p2 := place_of_ok q h d2 n2 hd2 hh h2
  have l2 := l2
  generalize (zss8 d1 n1 d2 n2 zs).map zt = TS at *
  generalize zt [(d1, n1), (d2, n2)] = T at *
  generalize nd d1 n1 = N1 at *
  generalize nd d2 n2 = N2 at *
  generalize kn q = KQ at *
  generalize ((sp q h d1 n1 : Nat) : Int) = P1 at *
  generalize ((sp q h d2 n2 : Nat) : Int) = P2 at *
  have lc : lcD [20] (gtName [0] 20) gYes ce_right_8 [N1, N2] [] [x0, x1, some (false, PyData.int ((h : Nat))), some (false, PyData.str (KQ)), some (false, N1), some (false, N2), x6, some (false, PyData.list (TS)), x8, x9, x10, x11, x12, x13, x14, none, none, none, none, none, none] = .ok [.int P1, .int P2] [x0, x1, some (false, PyData.int ((h : Nat))), some (false, PyData.str (KQ)), some (false, N1), some (false, N2), x6, some (false, PyData.list (TS)), x8, x9, x10, x11, x12, x13, x14, none, none, none, none, none, none] := by
    simp [lcD, ce_right_8, e_tUnl, e_ext, e_ext0, e_ext1, e_ext2, e_dix, e_dix1, e_dix2, e_look, e_rev, e_rev1, e_lr1, e_lr11, e_isE1, e_isE2, e_isE3, e_isE4, e_isE5, e_isE6, e_try, e_try1, e_try2, e_eqAS, e_neAS, e_eqAI, e_neAI, e_bind_ok, e_bind_exc, e_bind_stk, e_var, e_var1, e_var2, e_move, e_move1, e_move2, e_C, e_fin1, e_bin, e_bin1, e_bin2, e_chain, e_chain1, e_chain2, e_chain3, e_chain4, e_chain5, e_if, e_if1, e_if2, e_tv, e_tv1, e_notT, e_notT1, e_andT, e_andT1, e_andT2, e_orT, e_orT1, e_orT2, e_andV, e_andV1, e_andV2, e_orV, e_orV1, e_orV2, e_notV, e_notV1, e_aNil, e_aCons, e_aCons1, e_aCons2, e_star, e_star1, e_star2, e_star3, e_lst, e_lst1, e_tup, e_tup1, e_call, e_call1, e_slot, e_slot1, e_sb, e_sb0, e_sb1, e_sb2, e_sb3, e_bs, e_bs1, e_bs2, e_lenV, e_lenV1, e_un, e_un1, e_def, e_def1, e_def2, e_def3, e_fix0, e_fix1, e_fix2, e_def4, e_def0, e_def01, e_jNil, e_jVal, e_jVal1, e_j2, e_jIo, e_jIo1, e_itD0, e_itD1, e_itD2, e_itD3, e_itJ0, e_itJ1, e_itJ2, e_itP0, e_itP1, e_itP2, e_setMany0, e_setMany1, e_nodup0, e_nodup1, e_noPart, e_part, e_part1, e_slice, e_slice1, e_slice2, e_slice3, e_lstRg, e_lstRg1, e_lstRg2, e_iSeq, e_iSeq1, e_iSeq2, e_iEn, e_iEn1, e_iEn2, e_iR1, e_iR11, e_iR2, e_iR21, e_yes, e_lc, e_lc1, e_lc2, e_wipe0, e_wipe1, e_back0, e_back1, e_back2, e_noneOwn0, e_noneOwn1, e_noneOwn2, e_noneOwn3, e_noneOwn4, e_name, e_set, e_tNil, e_tCons, e_tCons1, e_tTup, e_seq, e_seq1, e_seq2, e_seq3, e_seq4, e_seq5, e_next, e_break, e_cont, e_expr, e_expr1, e_ret, e_ret1, e_sIf, e_sIf1, e_sIf2, e_asg, e_asg1, e_asg2, e_aug, e_aug0, e_aug1, e_aug2, e_aug3, e_par, e_par1, e_par2, e_app, e_app0, e_app1, e_app2, e_setIx, e_setIx0, e_setIx1, e_setIx2, e_setIx3, e_setIx4, e_match, e_match1, e_mCase, e_mAny, e_raise, e_for, e_body, e_body1, e_body2, e_body3, e_body4, e_body5, e_outs0, e_outs1, e_outs2, e_start0, e_start1, e_addI, e_addL, e_addI2, e_sub, e_cmp, e_eqI, e_neI, e_eqB, e_isN0, e_isN1, e_isN2, e_isN3, e_notN0, e_notN1, e_notN2, e_notN3, e_int, e_intB, e_max, e_min, e_neg, e_bits, e_lenL, e_lenT, e_lenS, e_ixL, e_ixT, e_ixS, e_at0, e_at1, e_at2, e_map, e_lstOf, e_lstOfS, e_seqOf, e_seqOfT, e_seqOfS, e_isiIB, e_isiII, e_isiTT, e_isiLL, p1, p2]
  simp [rO, e_tUnl, e_ext, e_ext0, e_ext1, e_ext2, e_dix, e_dix1, e_dix2, e_look, e_rev, e_rev1, e_lr1, e_lr11, e_isE1, e_isE2, e_isE3, e_isE4, e_isE5, e_isE6, e_try, e_try1, e_try2, e_eqAS, e_neAS, e_eqAI, e_neAI, e_bind_ok, e_bind_exc, e_bind_stk, e_var, e_var1, e_var2, e_move, e_move1, e_move2, e_C, e_fin1, e_bin, e_bin1, e_bin2, e_chain, e_chain1, e_chain2, e_chain3, e_chain4, e_chain5, e_if, e_if1, e_if2, e_tv, e_tv1, e_notT, e_notT1, e_andT, e_andT1, e_andT2, e_orT, e_orT1, e_orT2, e_andV, e_andV1, e_andV2, e_orV, e_orV1, e_orV2, e_notV, e_notV1, e_aNil, e_aCons, e_aCons1, e_aCons2, e_star, e_star1, e_star2, e_star3, e_lst, e_lst1, e_tup, e_tup1, e_call, e_call1, e_slot, e_slot1, e_sb, e_sb0, e_sb1, e_sb2, e_sb3, e_bs, e_bs1, e_bs2, e_lenV, e_lenV1, e_un, e_un1, e_def, e_def1, e_def2, e_def3, e_fix0, e_fix1, e_fix2, e_def4, e_def0, e_def01, e_jNil, e_jVal, e_jVal1, e_j2, e_jIo, e_jIo1, e_itD0, e_itD1, e_itD2, e_itD3, e_itJ0, e_itJ1, e_itJ2, e_itP0, e_itP1, e_itP2, e_setMany0, e_setMany1, e_nodup0, e_nodup1, e_noPart, e_part, e_part1, e_slice, e_slice1, e_slice2, e_slice3, e_lstRg, e_lstRg1, e_lstRg2, e_iSeq, e_iSeq1, e_iSeq2, e_iEn, e_iEn1, e_iEn2, e_iR1, e_iR11, e_iR2, e_iR21, e_yes, e_lc, e_lc1, e_lc2, e_wipe0, e_wipe1, e_back0, e_back1, e_back2, e_noneOwn0, e_noneOwn1, e_noneOwn2, e_noneOwn3, e_noneOwn4, e_name, e_set, e_tNil, e_tCons, e_tCons1, e_tTup, e_seq, e_seq1, e_seq2, e_seq3, e_seq4, e_seq5, e_next, e_break, e_cont, e_expr, e_expr1, e_ret, e_ret1, e_sIf, e_sIf1, e_sIf2, e_asg, e_asg1, e_asg2, e_aug, e_aug0, e_aug1, e_aug2, e_aug3, e_par, e_par1, e_par2, e_app, e_app0, e_app1, e_app2, e_setIx, e_setIx0, e_setIx1, e_setIx2, e_setIx3, e_setIx4, e_match, e_match1, e_mCase, e_mAny, e_raise, e_for, e_body, e_body1, e_body2, e_body3, e_body4, e_body5, e_outs0, e_outs1, e_outs2, e_start0, e_start1, e_addI, e_addL, e_addI2, e_sub, e_cmp, e_eqI, e_neI, e_eqB, e_isN0, e_isN1, e_isN2, e_isN3, e_notN0, e_notN1, e_notN2, e_notN3, e_int, e_intB, e_max, e_min, e_neg, e_bits, e_lenL, e_lenT, e_lenS, e_ixL, e_ixT, e_ixS, e_at0, e_at1, e_at2, e_map, e_lstOf, e_lstOfS, e_seqOf, e_seqOfT, e_seqOfS, e_isiIB, e_isiII, e_isiTT, e_isiLL, ix, rd, lc, l2, -e_ixL]
theorem rP_ok (hd1 : d1 < h) (hd2 : d2 < h) (hh : h ≤ 100) (h1 : n1 < 2 ^ d1) (h2 : n2 < 2 ^ d2) (x7 : Option (Bool × D)) : ∃ x15,
    rP [x0, x1, some (false, PyData.int ((h : Nat))), some (false, PyData.str (kn q)), some (false, nd d1 n1), some (false, nd d2 n2), x6, x7, x8, x9, x10, x11, x12, x13, x14, some (true, .list [.int (sp q h d1 n1 : Nat), .int (sp q h d2 n2 : Nat)]), none, none, none, none, none] = .ok (.rt (.bool true) false) [x0, x1, some (false, PyData.int ((h : Nat))), some (false, PyData.str (kn q)), some (false, nd d1 n1), some (false, nd d2 n2), x6, x7, x8, x9, x10, x11, x12, x13, x14, x15, none, none, none, none, none] := by
  have p1 := place_of_ok q h d1 n1 hd1 hh h1
  have p2 := place_of_ok q h d2 n2 hd2 hh h2
  have e := eq_two ((sp q h d1 n1 : Nat) : Int) ((sp q h d2 n2 : Nat) : Int) ((sp q h d1 n1 : Nat) : Int) ((sp q h d2 n2 : Nat) : Int)
  rw [show (((sp q h d1 n1 : Nat) : Int) == ((sp q h d1 n1 : Nat) : Int)) = true by simp, show (((sp q h d2 n2 : Nat) : Int) == ((sp q h d2 n2 : Nat) : Int)) = true by simp, Bool.and_self] at e
  have l2 := l2
  refine ⟨some (false, .list [.int (sp q h d1 n1 : Nat), .int (sp q h d2 n2 : Nat)]), ?_⟩
  generalize nd d1 n1 = N1 at *
  generalize nd d2 n2 = N2 at *
  generalize kn q = KQ at *
  generalize ((sp q h d1 n1 : Nat) : Int) = P1 at *
  generalize ((sp q h d2 n2 : Nat) : Int) = P2 at *
  have lc : lcD [20] (gtName [0] 20) gYes ce_right_9 [N1, N2] [] [x0, x1, some (false, PyData.int ((h : Nat))), some (false, PyData.str (KQ)), some (false, N1), some (false, N2), x6, x7, x8, x9, x10, x11, x12, x13, x14, some (false, PyData.list ([.int P1, .int P2])), none, none, none, none, none] = .ok [.int P1, .int P2] [x0, x1, some (false, PyData.int ((h : Nat))), some (false, PyData.str (KQ)), some (false, N1), some (false, N2), x6, x7, x8, x9, x10, x11, x12, x13, x14, some (false, PyData.list ([.int P1, .int P2])), none, none, none, none, none] := by
    simp [lcD, ce_right_9, e_tUnl, e_ext, e_ext0, e_ext1, e_ext2, e_dix, e_dix1, e_dix2, e_look, e_rev, e_rev1, e_lr1, e_lr11, e_isE1, e_isE2, e_isE3, e_isE4, e_isE5, e_isE6, e_try, e_try1, e_try2, e_eqAS, e_neAS, e_eqAI, e_neAI, e_bind_ok, e_bind_exc, e_bind_stk, e_var, e_var1, e_var2, e_move, e_move1, e_move2, e_C, e_fin1, e_bin, e_bin1, e_bin2, e_chain, e_chain1, e_chain2, e_chain3, e_chain4, e_chain5, e_if, e_if1, e_if2, e_tv, e_tv1, e_notT, e_notT1, e_andT, e_andT1, e_andT2, e_orT, e_orT1, e_orT2, e_andV, e_andV1, e_andV2, e_orV, e_orV1, e_orV2, e_notV, e_notV1, e_aNil, e_aCons, e_aCons1, e_aCons2, e_star, e_star1, e_star2, e_star3, e_lst, e_lst1, e_tup, e_tup1, e_call, e_call1, e_slot, e_slot1, e_sb, e_sb0, e_sb1, e_sb2, e_sb3, e_bs, e_bs1, e_bs2, e_lenV, e_lenV1, e_un, e_un1, e_def, e_def1, e_def2, e_def3, e_fix0, e_fix1, e_fix2, e_def4, e_def0, e_def01, e_jNil, e_jVal, e_jVal1, e_j2, e_jIo, e_jIo1, e_itD0, e_itD1, e_itD2, e_itD3, e_itJ0, e_itJ1, e_itJ2, e_itP0, e_itP1, e_itP2, e_setMany0, e_setMany1, e_nodup0, e_nodup1, e_noPart, e_part, e_part1, e_slice, e_slice1, e_slice2, e_slice3, e_lstRg, e_lstRg1, e_lstRg2, e_iSeq, e_iSeq1, e_iSeq2, e_iEn, e_iEn1, e_iEn2, e_iR1, e_iR11, e_iR2, e_iR21, e_yes, e_lc, e_lc1, e_lc2, e_wipe0, e_wipe1, e_back0, e_back1, e_back2, e_noneOwn0, e_noneOwn1, e_noneOwn2, e_noneOwn3, e_noneOwn4, e_name, e_set, e_tNil, e_tCons, e_tCons1, e_tTup, e_seq, e_seq1, e_seq2, e_seq3, e_seq4, e_seq5, e_next, e_break, e_cont, e_expr, e_expr1, e_ret, e_ret1, e_sIf, e_sIf1, e_sIf2, e_asg, e_asg1, e_asg2, e_aug, e_aug0, e_aug1, e_aug2, e_aug3, e_par, e_par1, e_par2, e_app, e_app0, e_app1, e_app2, e_setIx, e_setIx0, e_setIx1, e_setIx2, e_setIx3, e_setIx4, e_match, e_match1, e_mCase, e_mAny, e_raise, e_for, e_body, e_body1, e_body2, e_body3, e_body4, e_body5, e_outs0, e_outs1, e_outs2, e_start0, e_start1, e_addI, e_addL, e_addI2, e_sub, e_cmp, e_eqI, e_neI, e_eqB, e_isN0, e_isN1, e_isN2, e_isN3, e_notN0, e_notN1, e_notN2, e_notN3, e_int, e_intB, e_max, e_min, e_neg, e_bits, e_lenL, e_lenT, e_lenS, e_ixL, e_ixT, e_ixS, e_at0, e_at1, e_at2, e_map, e_lstOf, e_lstOfS, e_seqOf, e_seqOfT, e_seqOfS, e_isiIB, e_isiII, e_isiTT, e_isiLL, p1, p2]
  simp [rP, e_tUnl, e_ext, e_ext0, e_ext1, e_ext2, e_dix, e_dix1, e_dix2, e_look, e_rev, e_rev1, e_lr1, e_lr11, e_isE1, e_isE2, e_isE3, e_isE4, e_isE5, e_isE6, e_try, e_try1, e_try2, e_eqAS, e_neAS, e_eqAI, e_neAI, e_bind_ok, e_bind_exc, e_bind_stk, e_var, e_var1, e_var2, e_move, e_move1, e_move2, e_C, e_fin1, e_bin, e_bin1, e_bin2, e_chain, e_chain1, e_chain2, e_chain3, e_chain4, e_chain5, e_if, e_if1, e_if2, e_tv, e_tv1, e_notT, e_notT1, e_andT, e_andT1, e_andT2, e_orT, e_orT1, e_orT2, e_andV, e_andV1, e_andV2, e_orV, e_orV1, e_orV2, e_notV, e_notV1, e_aNil, e_aCons, e_aCons1, e_aCons2, e_star, e_star1, e_star2, e_star3, e_lst, e_lst1, e_tup, e_tup1, e_call, e_call1, e_slot, e_slot1, e_sb, e_sb0, e_sb1, e_sb2, e_sb3, e_bs, e_bs1, e_bs2, e_lenV, e_lenV1, e_un, e_un1, e_def, e_def1, e_def2, e_def3, e_fix0, e_fix1, e_fix2, e_def4, e_def0, e_def01, e_jNil, e_jVal, e_jVal1, e_j2, e_jIo, e_jIo1, e_itD0, e_itD1, e_itD2, e_itD3, e_itJ0, e_itJ1, e_itJ2, e_itP0, e_itP1, e_itP2, e_setMany0, e_setMany1, e_nodup0, e_nodup1, e_noPart, e_part, e_part1, e_slice, e_slice1, e_slice2, e_slice3, e_lstRg, e_lstRg1, e_lstRg2, e_iSeq, e_iSeq1, e_iSeq2, e_iEn, e_iEn1, e_iEn2, e_iR1, e_iR11, e_iR2, e_iR21, e_yes, e_lc, e_lc1, e_lc2, e_wipe0, e_wipe1, e_back0, e_back1, e_back2, e_noneOwn0, e_noneOwn1, e_noneOwn2, e_noneOwn3, e_noneOwn4, e_name, e_set, e_tNil, e_tCons, e_tCons1, e_tTup, e_seq, e_seq1, e_seq2, e_seq3, e_seq4, e_seq5, e_next, e_break, e_cont, e_expr, e_expr1, e_ret, e_ret1, e_sIf, e_sIf1, e_sIf2, e_asg, e_asg1, e_asg2, e_aug, e_aug0, e_aug1, e_aug2, e_aug3, e_par, e_par1, e_par2, e_app, e_app0, e_app1, e_app2, e_setIx, e_setIx0, e_setIx1, e_setIx2, e_setIx3, e_setIx4, e_match, e_match1, e_mCase, e_mAny, e_raise, e_for, e_body, e_body1, e_body2, e_body3, e_body4, e_body5, e_outs0, e_outs1, e_outs2, e_start0, e_start1, e_addI, e_addL, e_addI2, e_sub, e_cmp, e_eqI, e_neI, e_eqB, e_isN0, e_isN1, e_isN2, e_isN3, e_notN0, e_notN1, e_notN2, e_notN3, e_int, e_intB, e_max, e_min, e_neg, e_bits, e_lenL, e_lenT, e_lenS, e_ixL, e_ixT, e_ixS, e_at0, e_at1, e_at2, e_map, e_lstOf, e_lstOfS, e_seqOf, e_seqOfT, e_seqOfS, e_isiIB, e_isiII, e_isiTT, e_isiLL, lc, l2, e, e_seqOfT]
end
theorem right47_ok {m : Nat} {r : D} (b : BL m r) (hm : m ≤ 900) (N : Nat) (hN : 1 ≤ N) (hN2 : N ≤ 100) : ∃ r', m__law_right [r, .int (N : Nat)] = .ok (.bool true, false) [r'] ∧ BL (m + 19) r' := by
  obtain ⟨v1, r1, s1, hv1, b1⟩ := pickN b (by omega) N (by omega) (by omega)
  obtain ⟨v2, r2, s2, hv2, b2⟩ := pickN b1 (by omega) 7 (by omega) (by omega)
  have s2 : m__law_pick [r1, .int 7] = .ok (.int (v2 : Nat), false) [r2] := s2
  obtain ⟨q, eq⟩ := kinds_at v2 hv2
  have kk := kinds_ok
  obtain ⟨d1, n1, r3, t1, hd1, hn1, b3⟩ := node_ok b2 (by omega) (1 + v1) (by omega) (by omega)
  obtain ⟨d2, n2, r4, t2, hd2, hn2, b4⟩ := node_ok b3 (by omega) (1 + v1) (by omega) (by omega)
  have eh : ((1 + v1 : Nat) : Int) = 1 + (v1 : Int) := by omega
  have hh : 1 + v1 ≤ 100 := by omega
  have h1' : 1 ≤ 1 + v1 := by omega
  generalize hhv : 1 + v1 = h at *
  have jA : rA [some (true, r), some (false, PyData.int ((N : Nat))), none, none, none, none, none, none, none, none, none, none, none, none, none, none, none, none, none, none, none] = .ok .nx [some (true, r2), some (false, PyData.int ((N : Nat))), some (false, PyData.int ((h : Nat))), some (false, PyData.str (kn q)), none, none, none, none, none, none, none, none, none, none, none, none, none, none, none, none, none] := by
    rw [eh]
    generalize kindsL = KL at *
    generalize kn q = KQ at *
    generalize ((v1 : Nat) : Int) = V1 at *
    generalize ((v2 : Nat) : Int) = V2 at *
    generalize ((N : Nat) : Int) = NI at *
    simp [rA, gDef0, e_tUnl, e_ext, e_ext0, e_ext1, e_ext2, e_dix, e_dix1, e_dix2, e_look, e_rev, e_rev1, e_lr1, e_lr11, e_isE1, e_isE2, e_isE3, e_isE4, e_isE5, e_isE6, e_try, e_try1, e_try2, e_eqAS, e_neAS, e_eqAI, e_neAI, e_bind_ok, e_bind_exc, e_bind_stk, e_var, e_var1, e_var2, e_move, e_move1, e_move2, e_C, e_fin1, e_bin, e_bin1, e_bin2, e_chain, e_chain1, e_chain2, e_chain3, e_chain4, e_chain5, e_if, e_if1, e_if2, e_tv, e_tv1, e_notT, e_notT1, e_andT, e_andT1, e_andT2, e_orT, e_orT1, e_orT2, e_andV, e_andV1, e_andV2, e_orV, e_orV1, e_orV2, e_notV, e_notV1, e_aNil, e_aCons, e_aCons1, e_aCons2, e_star, e_star1, e_star2, e_star3, e_lst, e_lst1, e_tup, e_tup1, e_call, e_call1, e_slot, e_slot1, e_sb, e_sb0, e_sb1, e_sb2, e_sb3, e_bs, e_bs1, e_bs2, e_lenV, e_lenV1, e_un, e_un1, e_def, e_def1, e_def2, e_def3, e_fix0, e_fix1, e_fix2, e_def4, e_def0, e_def01, e_jNil, e_jVal, e_jVal1, e_j2, e_jIo, e_jIo1, e_itD0, e_itD1, e_itD2, e_itD3, e_itJ0, e_itJ1, e_itJ2, e_itP0, e_itP1, e_itP2, e_setMany0, e_setMany1, e_nodup0, e_nodup1, e_noPart, e_part, e_part1, e_slice, e_slice1, e_slice2, e_slice3, e_lstRg, e_lstRg1, e_lstRg2, e_iSeq, e_iSeq1, e_iSeq2, e_iEn, e_iEn1, e_iEn2, e_iR1, e_iR11, e_iR2, e_iR21, e_yes, e_lc, e_lc1, e_lc2, e_wipe0, e_wipe1, e_back0, e_back1, e_back2, e_noneOwn0, e_noneOwn1, e_noneOwn2, e_noneOwn3, e_noneOwn4, e_name, e_set, e_tNil, e_tCons, e_tCons1, e_tTup, e_seq, e_seq1, e_seq2, e_seq3, e_seq4, e_seq5, e_next, e_break, e_cont, e_expr, e_expr1, e_ret, e_ret1, e_sIf, e_sIf1, e_sIf2, e_asg, e_asg1, e_asg2, e_aug, e_aug0, e_aug1, e_aug2, e_aug3, e_par, e_par1, e_par2, e_app, e_app0, e_app1, e_app2, e_setIx, e_setIx0, e_setIx1, e_setIx2, e_setIx3, e_setIx4, e_match, e_match1, e_mCase, e_mAny, e_raise, e_for, e_body, e_body1, e_body2, e_body3, e_body4, e_body5, e_outs0, e_outs1, e_outs2, e_start0, e_start1, e_addI, e_addL, e_addI2, e_sub, e_cmp, e_eqI, e_neI, e_eqB, e_isN0, e_isN1, e_isN2, e_isN3, e_notN0, e_notN1, e_notN2, e_notN3, e_int, e_intB, e_max, e_min, e_neg, e_bits, e_lenL, e_lenT, e_lenS, e_ixL, e_ixT, e_ixS, e_at0, e_at1, e_at2, e_map, e_lstOf, e_lstOfS, e_seqOf, e_seqOfT, e_seqOfS, e_isiIB, e_isiII, e_isiTT, e_isiLL, s1, kk, s2, eq, -e_ixL]
  have jB : rB [some (true, r2), some (false, PyData.int ((N : Nat))), some (false, PyData.int ((h : Nat))), some (false, PyData.str (kn q)), none, none, none, none, none, none, none, none, none, none, none, none, none, none, none, none, none] = .ok .nx [some (true, r4), some (false, PyData.int ((N : Nat))), some (false, PyData.int ((h : Nat))), some (false, PyData.str (kn q)), some (false, nd d1 n1), some (false, nd d2 n2), none, none, none, none, none, none, none, none, none, none, none, none, none, none, none] := by
    generalize kn q = KQ at *
    generalize nd d1 n1 = N1 at *
    generalize nd d2 n2 = N2 at *
    simp [rB, e_tUnl, e_ext, e_ext0, e_ext1, e_ext2, e_dix, e_dix1, e_dix2, e_look, e_rev, e_rev1, e_lr1, e_lr11, e_isE1, e_isE2, e_isE3, e_isE4, e_isE5, e_isE6, e_try, e_try1, e_try2, e_eqAS, e_neAS, e_eqAI, e_neAI, e_bind_ok, e_bind_exc, e_bind_stk, e_var, e_var1, e_var2, e_move, e_move1, e_move2, e_C, e_fin1, e_bin, e_bin1, e_bin2, e_chain, e_chain1, e_chain2, e_chain3, e_chain4, e_chain5, e_if, e_if1, e_if2, e_tv, e_tv1, e_notT, e_notT1, e_andT, e_andT1, e_andT2, e_orT, e_orT1, e_orT2, e_andV, e_andV1, e_andV2, e_orV, e_orV1, e_orV2, e_notV, e_notV1, e_aNil, e_aCons, e_aCons1, e_aCons2, e_star, e_star1, e_star2, e_star3, e_lst, e_lst1, e_tup, e_tup1, e_call, e_call1, e_slot, e_slot1, e_sb, e_sb0, e_sb1, e_sb2, e_sb3, e_bs, e_bs1, e_bs2, e_lenV, e_lenV1, e_un, e_un1, e_def, e_def1, e_def2, e_def3, e_fix0, e_fix1, e_fix2, e_def4, e_def0, e_def01, e_jNil, e_jVal, e_jVal1, e_j2, e_jIo, e_jIo1, e_itD0, e_itD1, e_itD2, e_itD3, e_itJ0, e_itJ1, e_itJ2, e_itP0, e_itP1, e_itP2, e_setMany0, e_setMany1, e_nodup0, e_nodup1, e_noPart, e_part, e_part1, e_slice, e_slice1, e_slice2, e_slice3, e_lstRg, e_lstRg1, e_lstRg2, e_iSeq, e_iSeq1, e_iSeq2, e_iEn, e_iEn1, e_iEn2, e_iR1, e_iR11, e_iR2, e_iR21, e_yes, e_lc, e_lc1, e_lc2, e_wipe0, e_wipe1, e_back0, e_back1, e_back2, e_noneOwn0, e_noneOwn1, e_noneOwn2, e_noneOwn3, e_noneOwn4, e_name, e_set, e_tNil, e_tCons, e_tCons1, e_tTup, e_seq, e_seq1, e_seq2, e_seq3, e_seq4, e_seq5, e_next, e_break, e_cont, e_expr, e_expr1, e_ret, e_ret1, e_sIf, e_sIf1, e_sIf2, e_asg, e_asg1, e_asg2, e_aug, e_aug0, e_aug1, e_aug2, e_aug3, e_par, e_par1, e_par2, e_app, e_app0, e_app1, e_app2, e_setIx, e_setIx0, e_setIx1, e_setIx2, e_setIx3, e_setIx4, e_match, e_match1, e_mCase, e_mAny, e_raise, e_for, e_body, e_body1, e_body2, e_body3, e_body4, e_body5, e_outs0, e_outs1, e_outs2, e_start0, e_start1, e_addI, e_addL, e_addI2, e_sub, e_cmp, e_eqI, e_neI, e_eqB, e_isN0, e_isN1, e_isN2, e_isN3, e_notN0, e_notN1, e_notN2, e_notN3, e_int, e_intB, e_max, e_min, e_neg, e_bits, e_lenL, e_lenT, e_lenS, e_ixL, e_ixT, e_ixS, e_at0, e_at1, e_at2, e_map, e_lstOf, e_lstOfS, e_seqOf, e_seqOfT, e_seqOfS, e_isiIB, e_isiII, e_isiTT, e_isiLL, t1, t2]
  obtain ⟨ws, hw, wl, jC⟩ := rC_ok (x0 := some (true, r4)) (x1 := some (false, PyData.int ((N : Nat)))) (x2 := some (false, PyData.int ((h : Nat)))) (x3 := some (false, PyData.str (kn q))) (d1 := d1) (n1 := n1) (d2 := d2) (n2 := n2) (by omega) (by omega)
  obtain ⟨zs, r5, f9, hz, b5⟩ := nine_ok b4 (by omega) q h h1' hh (some (false, PyData.int ((N : Nat)))) (some (false, nd d1 n1)) (some (false, nd d2 n2)) (some (true, .list ws))
  have hw := hw zs
  have zo := zss8_ok (show d1 < 100 by omega) (show d2 < 100 by omega) hn1 hn2 hz
  have zlen : (zss8 d1 n1 d2 n2 zs).length ≤ 1000 := by show 8 ≤ 1000; omega
  have jD : rD [some (true, r4), some (false, PyData.int ((N : Nat))), some (false, PyData.int ((h : Nat))), some (false, PyData.str (kn q)), some (false, nd d1 n1), some (false, nd d2 n2), some (true, .list ws), none, none, none, none, none, none, none, none, none, none, none, none, none, none] = .ok .nx [some (true, r5), some (false, PyData.int ((N : Nat))), some (false, PyData.int ((h : Nat))), some (false, PyData.str (kn q)), some (false, nd d1 n1), some (false, nd d2 n2), some (true, .list ((zss8 d1 n1 d2 n2 zs).map zl)), none, none, none, none, none, none, none, none, none, none, none, none, none, none] := by
    have wl' : ws.length < LINE := by rw [wl]; show 7 < 16777216; omega
    have e9 : rgN 0 (9 : Int).toNat = rgN 0 9 := rfl
    have l9 : (rgN 0 9).length ≤ LINE := lE 9 (by omega)
    rw [← hw]
    have ez : zl zs = .list (zs.map nzX) := rfl
    rw [ez]
    generalize zs.map nzX = ZZ at *
    generalize hR : rgN 0 9 = R9 at *
    generalize kn q = KQ at *
    generalize nd d1 n1 = N1 at *
    generalize nd d2 n2 = N2 at *
    simp [rD, e_tUnl, e_ext, e_ext0, e_ext1, e_ext2, e_dix, e_dix1, e_dix2, e_look, e_rev, e_rev1, e_lr1, e_lr11, e_isE1, e_isE2, e_isE3, e_isE4, e_isE5, e_isE6, e_try, e_try1, e_try2, e_eqAS, e_neAS, e_eqAI, e_neAI, e_bind_ok, e_bind_exc, e_bind_stk, e_var, e_var1, e_var2, e_move, e_move1, e_move2, e_C, e_fin1, e_bin, e_bin1, e_bin2, e_chain, e_chain1, e_chain2, e_chain3, e_chain4, e_chain5, e_if, e_if1, e_if2, e_tv, e_tv1, e_notT, e_notT1, e_andT, e_andT1, e_andT2, e_orT, e_orT1, e_orT2, e_andV, e_andV1, e_andV2, e_orV, e_orV1, e_orV2, e_notV, e_notV1, e_aNil, e_aCons, e_aCons1, e_aCons2, e_star, e_star1, e_star2, e_star3, e_lst, e_lst1, e_tup, e_tup1, e_call, e_call1, e_slot, e_slot1, e_sb, e_sb0, e_sb1, e_sb2, e_sb3, e_bs, e_bs1, e_bs2, e_lenV, e_lenV1, e_un, e_un1, e_def, e_def1, e_def2, e_def3, e_fix0, e_fix1, e_fix2, e_def4, e_def0, e_def01, e_jNil, e_jVal, e_jVal1, e_j2, e_jIo, e_jIo1, e_itD0, e_itD1, e_itD2, e_itD3, e_itJ0, e_itJ1, e_itJ2, e_itP0, e_itP1, e_itP2, e_setMany0, e_setMany1, e_nodup0, e_nodup1, e_noPart, e_part, e_part1, e_slice, e_slice1, e_slice2, e_slice3, e_lstRg, e_lstRg1, e_lstRg2, e_iSeq, e_iSeq1, e_iSeq2, e_iEn, e_iEn1, e_iEn2, e_iR1, e_iR11, e_iR2, e_iR21, e_yes, e_lc, e_lc1, e_lc2, e_wipe0, e_wipe1, e_back0, e_back1, e_back2, e_noneOwn0, e_noneOwn1, e_noneOwn2, e_noneOwn3, e_noneOwn4, e_name, e_set, e_tNil, e_tCons, e_tCons1, e_tTup, e_seq, e_seq1, e_seq2, e_seq3, e_seq4, e_seq5, e_next, e_break, e_cont, e_expr, e_expr1, e_ret, e_ret1, e_sIf, e_sIf1, e_sIf2, e_asg, e_asg1, e_asg2, e_aug, e_aug0, e_aug1, e_aug2, e_aug3, e_par, e_par1, e_par2, e_app, e_app0, e_app1, e_app2, e_setIx, e_setIx0, e_setIx1, e_setIx2, e_setIx3, e_setIx4, e_match, e_match1, e_mCase, e_mAny, e_raise, e_for, e_body, e_body1, e_body2, e_body3, e_body4, e_body5, e_outs0, e_outs1, e_outs2, e_start0, e_start1, e_addI, e_addL, e_addI2, e_sub, e_cmp, e_eqI, e_neI, e_eqB, e_isN0, e_isN1, e_isN2, e_isN3, e_notN0, e_notN1, e_notN2, e_notN3, e_int, e_intB, e_max, e_min, e_neg, e_bits, e_lenL, e_lenT, e_lenS, e_ixL, e_ixT, e_ixS, e_at0, e_at1, e_at2, e_map, e_lstOf, e_lstOfS, e_seqOf, e_seqOfT, e_seqOfS, e_isiIB, e_isiII, e_isiTT, e_isiLL, hR, l9, f9, wl']
  have jE := rE_ok (x0 := some (true, r5)) (x1 := some (false, PyData.int ((N : Nat)))) (x2 := some (false, PyData.int ((h : Nat)))) (x3 := some (false, PyData.str (kn q))) (x4 := some (false, nd d1 n1)) (x5 := some (false, nd d2 n2)) zo zlen
  obtain ⟨x8, x9, h8, jF⟩ := rF_ok (x0 := some (true, r5)) (x1 := some (false, PyData.int ((N : Nat)))) (x2 := some (false, PyData.int ((h : Nat)))) (x3 := some (false, PyData.str (kn q))) (x4 := some (false, nd d1 n1)) (x5 := some (false, nd d2 n2)) zo zlen
  obtain ⟨c, p, hc, hp, jG⟩ := rG_ok (x0 := some (true, r5)) (x1 := some (false, PyData.int ((N : Nat)))) (x3 := some (false, PyData.str (kn q))) (x5 := some (false, nd d2 n2)) (x6 := some (false, PyData.list ((zss8 d1 n1 d2 n2 zs).map zl))) (x7 := some (false, PyData.list ((zss8 d1 n1 d2 n2 zs).map zt))) (x8 := x8) (x9 := x9) hd1 hh hn1
  have jH := rH_ok (x0 := some (true, r5)) (x1 := some (false, PyData.int ((N : Nat)))) (x3 := some (false, PyData.str (kn q))) (x5 := some (false, nd d2 n2)) (x6 := some (false, PyData.list ((zss8 d1 n1 d2 n2 zs).map zl))) (x7 := some (false, PyData.list ((zss8 d1 n1 d2 n2 zs).map zt))) (x8 := x8) (x9 := x9) (x10 := some (false, c)) (x11 := some (false, p)) (show d1 + 1 ≤ 100 by omega) hn1 (some (false, PyData.int ((h : Nat))))
  obtain ⟨x12, jI⟩ := rI_ok (x0 := some (true, r5)) (x1 := some (false, PyData.int ((N : Nat)))) (x3 := some (false, PyData.str (kn q))) (x5 := some (false, nd d2 n2)) (x6 := some (false, PyData.list ((zss8 d1 n1 d2 n2 zs).map zl))) (x7 := some (false, PyData.list ((zss8 d1 n1 d2 n2 zs).map zt))) (x8 := x8) (x9 := x9) (x11 := some (false, p)) hc hh hn1 (some (false, PyData.int ((h : Nat)))) (some (false, nd d1 n1)) h8
  have jJ := rJ_ok (x0 := some (true, r5)) (x1 := some (false, PyData.int ((N : Nat)))) (x3 := some (false, PyData.str (kn q))) (x5 := some (false, nd d2 n2)) (x6 := some (false, PyData.list ((zss8 d1 n1 d2 n2 zs).map zl))) (x7 := some (false, PyData.list ((zss8 d1 n1 d2 n2 zs).map zt))) (x8 := x8) (x9 := x9) (x10 := some (false, c)) (x12 := x12) hp (by omega) hn1 (some (false, PyData.int ((h : Nat))))
  obtain ⟨e, z, mt, hz2, me⟩ := mt_ok h d1 n1 d2 n2 hd1 hd2 hh hn1 hn2
  have me1 := mt.e1
  have jK := rK_ok (x0 := some (true, r5)) (x1 := some (false, PyData.int ((N : Nat)))) (x3 := some (false, PyData.str (kn q))) (x6 := some (false, PyData.list ((zss8 d1 n1 d2 n2 zs).map zl))) (x7 := some (false, PyData.list ((zss8 d1 n1 d2 n2 zs).map zt))) (x8 := x8) (x9 := x9) (x10 := some (false, c)) (x11 := some (false, p)) (x12 := x12) hz2 (show e < 100 by omega) me
  have jL := rL_ok (x0 := some (true, r5)) (x1 := some (false, PyData.int ((N : Nat)))) (x3 := some (false, PyData.str (kn q))) (x6 := some (false, PyData.list ((zss8 d1 n1 d2 n2 zs).map zl))) (x7 := some (false, PyData.list ((zss8 d1 n1 d2 n2 zs).map zt))) (x8 := x8) (x9 := x9) (x10 := some (false, c)) (x11 := some (false, p)) (x12 := x12) (x13 := some (false, PyData.str (beg e z))) (show d1 < 100 by omega) (show d2 < 100 by omega) hn1 hn2 (some (false, PyData.int ((h : Nat))))
  have jM := rM_ok (x0 := some (true, r5)) (x1 := some (false, PyData.int ((N : Nat)))) (x3 := some (false, PyData.str (kn q))) (x6 := some (false, PyData.list ((zss8 d1 n1 d2 n2 zs).map zl))) (x7 := some (false, PyData.list ((zss8 d1 n1 d2 n2 zs).map zt))) (x8 := x8) (x9 := x9) (x10 := some (false, c)) (x11 := some (false, p)) (x12 := x12) mt (show d1 < 100 by omega) (show d2 < 100 by omega) (some (false, PyData.int ((h : Nat)))) (some (false, nd d1 n1)) (some (false, nd d2 n2))
  have jN := rN_ok (x0 := some (true, r5)) (x1 := some (false, PyData.int ((N : Nat)))) (x3 := some (false, PyData.str (kn q))) (x6 := some (false, PyData.list ((zss8 d1 n1 d2 n2 zs).map zl))) (x7 := some (false, PyData.list ((zss8 d1 n1 d2 n2 zs).map zt))) (x8 := x8) (x9 := x9) (x10 := some (false, c)) (x11 := some (false, p)) (x12 := x12) mt (show d1 < 100 by omega) (show d2 < 100 by omega) (some (false, PyData.int ((h : Nat)))) (some (false, nd d1 n1)) (some (false, nd d2 n2))
  have jO := rO_ok (x0 := some (true, r5)) (x1 := some (false, PyData.int ((N : Nat)))) (x6 := some (false, PyData.list ((zss8 d1 n1 d2 n2 zs).map zl))) (x8 := x8) (x9 := x9) (x10 := some (false, c)) (x11 := some (false, p)) (x12 := x12) (x13 := some (false, PyData.str (beg e z))) (x14 := some (false, PyData.list ([.str (beg d1 n1), .str (beg d2 n2)]))) (zs := zs) (q := q) hd1 hd2 hh hn1 hn2
  obtain ⟨x15, jP⟩ := rP_ok (x0 := some (true, r5)) (x1 := some (false, PyData.int ((N : Nat)))) (x6 := some (false, PyData.list ((zss8 d1 n1 d2 n2 zs).map zl))) (x8 := x8) (x9 := x9) (x10 := some (false, c)) (x11 := some (false, p)) (x12 := x12) (x13 := some (false, PyData.str (beg e z))) (x14 := some (false, PyData.list ([.str (beg d1 n1), .str (beg d2 n2)]))) (q := q) hd1 hd2 hh hn1 hn2 (some (false, PyData.list ((zss8 d1 n1 d2 n2 zs).map zt)))
  refine ⟨r5, ?_, b5.mono (by omega)⟩
  clear hw me
  generalize (zss8 d1 n1 d2 n2 zs).map zl = LS at *
  generalize (zss8 d1 n1 d2 n2 zs).map zt = TS at *
  generalize nd d1 n1 = N1 at *
  generalize nd d2 n2 = N2 at *
  generalize kn q = KQ at *
  generalize beg e z = BE at *
  generalize beg d1 n1 = B1 at *
  generalize beg d2 n2 = B2 at *
  generalize ((h : Nat) : Int) = HI at *
  generalize ((N : Nat) : Int) = NI at *
  simp [m__law_right, b__law_right_eq, e_tUnl, e_ext, e_ext0, e_ext1, e_ext2, e_dix, e_dix1, e_dix2, e_look, e_rev, e_rev1, e_lr1, e_lr11, e_isE1, e_isE2, e_isE3, e_isE4, e_isE5, e_isE6, e_try, e_try1, e_try2, e_eqAS, e_neAS, e_eqAI, e_neAI, e_bind_ok, e_bind_exc, e_bind_stk, e_var, e_var1, e_var2, e_move, e_move1, e_move2, e_C, e_fin1, e_bin, e_bin1, e_bin2, e_chain, e_chain1, e_chain2, e_chain3, e_chain4, e_chain5, e_if, e_if1, e_if2, e_tv, e_tv1, e_notT, e_notT1, e_andT, e_andT1, e_andT2, e_orT, e_orT1, e_orT2, e_andV, e_andV1, e_andV2, e_orV, e_orV1, e_orV2, e_notV, e_notV1, e_aNil, e_aCons, e_aCons1, e_aCons2, e_star, e_star1, e_star2, e_star3, e_lst, e_lst1, e_tup, e_tup1, e_call, e_call1, e_slot, e_slot1, e_sb, e_sb0, e_sb1, e_sb2, e_sb3, e_bs, e_bs1, e_bs2, e_lenV, e_lenV1, e_un, e_un1, e_def, e_def1, e_def2, e_def3, e_fix0, e_fix1, e_fix2, e_def4, e_def0, e_def01, e_jNil, e_jVal, e_jVal1, e_j2, e_jIo, e_jIo1, e_itD0, e_itD1, e_itD2, e_itD3, e_itJ0, e_itJ1, e_itJ2, e_itP0, e_itP1, e_itP2, e_setMany0, e_setMany1, e_nodup0, e_nodup1, e_noPart, e_part, e_part1, e_slice, e_slice1, e_slice2, e_slice3, e_lstRg, e_lstRg1, e_lstRg2, e_iSeq, e_iSeq1, e_iSeq2, e_iEn, e_iEn1, e_iEn2, e_iR1, e_iR11, e_iR2, e_iR21, e_yes, e_lc, e_lc1, e_lc2, e_wipe0, e_wipe1, e_back0, e_back1, e_back2, e_noneOwn0, e_noneOwn1, e_noneOwn2, e_noneOwn3, e_noneOwn4, e_name, e_set, e_tNil, e_tCons, e_tCons1, e_tTup, e_seq, e_seq1, e_seq2, e_seq3, e_seq4, e_seq5, e_next, e_break, e_cont, e_expr, e_expr1, e_ret, e_ret1, e_sIf, e_sIf1, e_sIf2, e_asg, e_asg1, e_asg2, e_aug, e_aug0, e_aug1, e_aug2, e_aug3, e_par, e_par1, e_par2, e_app, e_app0, e_app1, e_app2, e_setIx, e_setIx0, e_setIx1, e_setIx2, e_setIx3, e_setIx4, e_match, e_match1, e_mCase, e_mAny, e_raise, e_for, e_body, e_body1, e_body2, e_body3, e_body4, e_body5, e_outs0, e_outs1, e_outs2, e_start0, e_start1, e_addI, e_addL, e_addI2, e_sub, e_cmp, e_eqI, e_neI, e_eqB, e_isN0, e_isN1, e_isN2, e_isN3, e_notN0, e_notN1, e_notN2, e_notN3, e_int, e_intB, e_max, e_min, e_neg, e_bits, e_lenL, e_lenT, e_lenS, e_ixL, e_ixT, e_ixS, e_at0, e_at1, e_at2, e_map, e_lstOf, e_lstOfS, e_seqOf, e_seqOfT, e_seqOfS, e_isiIB, e_isiII, e_isiTT, e_isiLL, jA, jB, jC, jD, jE, jF, jG, jH, jI, jJ, jK, jL, jM, jN, jO, jP]
theorem cell_turn {z : Int} (SC : D) (x1 x3 : Option (Bool × D)) (x2 : Option (Bool × D)) : ∃ (y2 y3 : Option (Bool × D)), lb_law_2 [some (false, SC), some (false, PyData.int (z)), x2, x3] = .ok .nx [some (false, SC), some (false, PyData.int (z)), y2, y3] := by
  obtain ⟨r, e0, b⟩ := bag_ok z
  have fx : fixF (r, true) = (r, true) := by
    obtain ⟨_, _, _, rfl, _⟩ := b
    rfl
  obtain ⟨r1, t1, b1⟩ := right47_ok b (by omega) 4 (by omega) (by omega)
  have t1 : m__law_right [r, .int 4] = .ok (.bool true, false) [r1] := t1
  obtain ⟨r2, t2, b2⟩ := right47_ok b1 (by omega) 30 (by omega) (by omega)
  have t2 : m__law_right [r1, .int 30] = .ok (.bool true, false) [r2] := t2
  obtain ⟨r3, t3, b3⟩ := right47_ok b2 (by omega) 100 (by omega) (by omega)
  have t3 : m__law_right [r2, .int 100] = .ok (.bool true, false) [r3] := t3
  have l3 := l3
  refine ⟨some (true, r3), some (false, PyData.int (100)), ?_⟩
  have f1 : forD (gtName [] 3) lb_law_1 [.int 4, .int 30, .int 100] [some (false, SC), some (false, PyData.int (z)), some (true, r), x3] = .ok .nx [some (false, SC), some (false, PyData.int (z)), some (true, r3), some (false, PyData.int (100))] := by
    simp [forD, lb_law_1, e_tUnl, e_ext, e_ext0, e_ext1, e_ext2, e_dix, e_dix1, e_dix2, e_look, e_rev, e_rev1, e_lr1, e_lr11, e_isE1, e_isE2, e_isE3, e_isE4, e_isE5, e_isE6, e_try, e_try1, e_try2, e_eqAS, e_neAS, e_eqAI, e_neAI, e_bind_ok, e_bind_exc, e_bind_stk, e_var, e_var1, e_var2, e_move, e_move1, e_move2, e_C, e_fin1, e_bin, e_bin1, e_bin2, e_chain, e_chain1, e_chain2, e_chain3, e_chain4, e_chain5, e_if, e_if1, e_if2, e_tv, e_tv1, e_notT, e_notT1, e_andT, e_andT1, e_andT2, e_orT, e_orT1, e_orT2, e_andV, e_andV1, e_andV2, e_orV, e_orV1, e_orV2, e_notV, e_notV1, e_aNil, e_aCons, e_aCons1, e_aCons2, e_star, e_star1, e_star2, e_star3, e_lst, e_lst1, e_tup, e_tup1, e_call, e_call1, e_slot, e_slot1, e_sb, e_sb0, e_sb1, e_sb2, e_sb3, e_bs, e_bs1, e_bs2, e_lenV, e_lenV1, e_un, e_un1, e_def, e_def1, e_def2, e_def3, e_fix0, e_fix1, e_fix2, e_def4, e_def0, e_def01, e_jNil, e_jVal, e_jVal1, e_j2, e_jIo, e_jIo1, e_itD0, e_itD1, e_itD2, e_itD3, e_itJ0, e_itJ1, e_itJ2, e_itP0, e_itP1, e_itP2, e_setMany0, e_setMany1, e_nodup0, e_nodup1, e_noPart, e_part, e_part1, e_slice, e_slice1, e_slice2, e_slice3, e_lstRg, e_lstRg1, e_lstRg2, e_iSeq, e_iSeq1, e_iSeq2, e_iEn, e_iEn1, e_iEn2, e_iR1, e_iR11, e_iR2, e_iR21, e_yes, e_lc, e_lc1, e_lc2, e_wipe0, e_wipe1, e_back0, e_back1, e_back2, e_noneOwn0, e_noneOwn1, e_noneOwn2, e_noneOwn3, e_noneOwn4, e_name, e_set, e_tNil, e_tCons, e_tCons1, e_tTup, e_seq, e_seq1, e_seq2, e_seq3, e_seq4, e_seq5, e_next, e_break, e_cont, e_expr, e_expr1, e_ret, e_ret1, e_sIf, e_sIf1, e_sIf2, e_asg, e_asg1, e_asg2, e_aug, e_aug0, e_aug1, e_aug2, e_aug3, e_par, e_par1, e_par2, e_app, e_app0, e_app1, e_app2, e_setIx, e_setIx0, e_setIx1, e_setIx2, e_setIx3, e_setIx4, e_match, e_match1, e_mCase, e_mAny, e_raise, e_for, e_body, e_body1, e_body2, e_body3, e_body4, e_body5, e_outs0, e_outs1, e_outs2, e_start0, e_start1, e_addI, e_addL, e_addI2, e_sub, e_cmp, e_eqI, e_neI, e_eqB, e_isN0, e_isN1, e_isN2, e_isN3, e_notN0, e_notN1, e_notN2, e_notN3, e_int, e_intB, e_max, e_min, e_neg, e_bits, e_lenL, e_lenT, e_lenS, e_ixL, e_ixT, e_ixS, e_at0, e_at1, e_at2, e_map, e_lstOf, e_lstOfS, e_seqOf, e_seqOfT, e_seqOfS, e_isiIB, e_isiII, e_isiTT, e_isiLL, t1, t2, t3]
  simp [lb_law_2, e_tUnl, e_ext, e_ext0, e_ext1, e_ext2, e_dix, e_dix1, e_dix2, e_look, e_rev, e_rev1, e_lr1, e_lr11, e_isE1, e_isE2, e_isE3, e_isE4, e_isE5, e_isE6, e_try, e_try1, e_try2, e_eqAS, e_neAS, e_eqAI, e_neAI, e_bind_ok, e_bind_exc, e_bind_stk, e_var, e_var1, e_var2, e_move, e_move1, e_move2, e_C, e_fin1, e_bin, e_bin1, e_bin2, e_chain, e_chain1, e_chain2, e_chain3, e_chain4, e_chain5, e_if, e_if1, e_if2, e_tv, e_tv1, e_notT, e_notT1, e_andT, e_andT1, e_andT2, e_orT, e_orT1, e_orT2, e_andV, e_andV1, e_andV2, e_orV, e_orV1, e_orV2, e_notV, e_notV1, e_aNil, e_aCons, e_aCons1, e_aCons2, e_star, e_star1, e_star2, e_star3, e_lst, e_lst1, e_tup, e_tup1, e_call, e_call1, e_slot, e_slot1, e_sb, e_sb0, e_sb1, e_sb2, e_sb3, e_bs, e_bs1, e_bs2, e_lenV, e_lenV1, e_un, e_un1, e_def, e_def1, e_def2, e_def3, e_fix0, e_fix1, e_fix2, e_def4, e_def0, e_def01, e_jNil, e_jVal, e_jVal1, e_j2, e_jIo, e_jIo1, e_itD0, e_itD1, e_itD2, e_itD3, e_itJ0, e_itJ1, e_itJ2, e_itP0, e_itP1, e_itP2, e_setMany0, e_setMany1, e_nodup0, e_nodup1, e_noPart, e_part, e_part1, e_slice, e_slice1, e_slice2, e_slice3, e_lstRg, e_lstRg1, e_lstRg2, e_iSeq, e_iSeq1, e_iSeq2, e_iEn, e_iEn1, e_iEn2, e_iR1, e_iR11, e_iR2, e_iR21, e_yes, e_lc, e_lc1, e_lc2, e_wipe0, e_wipe1, e_back0, e_back1, e_back2, e_noneOwn0, e_noneOwn1, e_noneOwn2, e_noneOwn3, e_noneOwn4, e_name, e_set, e_tNil, e_tCons, e_tCons1, e_tTup, e_seq, e_seq1, e_seq2, e_seq3, e_seq4, e_seq5, e_next, e_break, e_cont, e_expr, e_expr1, e_ret, e_ret1, e_sIf, e_sIf1, e_sIf2, e_asg, e_asg1, e_asg2, e_aug, e_aug0, e_aug1, e_aug2, e_aug3, e_par, e_par1, e_par2, e_app, e_app0, e_app1, e_app2, e_setIx, e_setIx0, e_setIx1, e_setIx2, e_setIx3, e_setIx4, e_match, e_match1, e_mCase, e_mAny, e_raise, e_for, e_body, e_body1, e_body2, e_body3, e_body4, e_body5, e_outs0, e_outs1, e_outs2, e_start0, e_start1, e_addI, e_addL, e_addI2, e_sub, e_cmp, e_eqI, e_neI, e_eqB, e_isN0, e_isN1, e_isN2, e_isN3, e_notN0, e_notN1, e_notN2, e_notN3, e_int, e_intB, e_max, e_min, e_neg, e_bits, e_lenL, e_lenT, e_lenS, e_ixL, e_ixT, e_ixS, e_at0, e_at1, e_at2, e_map, e_lstOf, e_lstOfS, e_seqOf, e_seqOfT, e_seqOfS, e_isiIB, e_isiII, e_isiTT, e_isiLL, e0, fx, f1, l3, e_seqOfT]
theorem law_true (ns : List Int) (hns : ns.length ≤ 63) (_ : ∀ z ∈ ns, Builtin.Int.intBits z ≤ 1048576) : ∃ fr outs, m_law [scrD ns] = .ok (.bool true, fr) outs := by
  obtain ⟨δ', h1, x1, x2, x3, rfl⟩ := forD_inv (tgt := gtName [] 1) (body := lb_law_2) (ds := cellsL ns 6) (δ := [some (false, scrD ns), none, none, none])
    (fun i δ => ∃ x1 x2 x3, δ = [some (false, scrD ns), x1, x2, x3]) ⟨none, none, none, rfl⟩ (by
      rintro i x δ hx ⟨x1, x2, x3, rfl⟩
      obtain ⟨hi, z, rfl⟩ := cells_get hx
      obtain ⟨y2, y3, t⟩ := cell_turn (z := z) (scrD ns) x1 x3 x2
      generalize scrD ns = SC at *
      exact ⟨[some (false, SC), some (false, PyData.int (z)), x2, x3], by simp [e_tUnl, e_ext, e_ext0, e_ext1, e_ext2, e_dix, e_dix1, e_dix2, e_look, e_rev, e_rev1, e_lr1, e_lr11, e_isE1, e_isE2, e_isE3, e_isE4, e_isE5, e_isE6, e_try, e_try1, e_try2, e_eqAS, e_neAS, e_eqAI, e_neAI, e_bind_ok, e_bind_exc, e_bind_stk, e_var, e_var1, e_var2, e_move, e_move1, e_move2, e_C, e_fin1, e_bin, e_bin1, e_bin2, e_chain, e_chain1, e_chain2, e_chain3, e_chain4, e_chain5, e_if, e_if1, e_if2, e_tv, e_tv1, e_notT, e_notT1, e_andT, e_andT1, e_andT2, e_orT, e_orT1, e_orT2, e_andV, e_andV1, e_andV2, e_orV, e_orV1, e_orV2, e_notV, e_notV1, e_aNil, e_aCons, e_aCons1, e_aCons2, e_star, e_star1, e_star2, e_star3, e_lst, e_lst1, e_tup, e_tup1, e_call, e_call1, e_slot, e_slot1, e_sb, e_sb0, e_sb1, e_sb2, e_sb3, e_bs, e_bs1, e_bs2, e_lenV, e_lenV1, e_un, e_un1, e_def, e_def1, e_def2, e_def3, e_fix0, e_fix1, e_fix2, e_def4, e_def0, e_def01, e_jNil, e_jVal, e_jVal1, e_j2, e_jIo, e_jIo1, e_itD0, e_itD1, e_itD2, e_itD3, e_itJ0, e_itJ1, e_itJ2, e_itP0, e_itP1, e_itP2, e_setMany0, e_setMany1, e_nodup0, e_nodup1, e_noPart, e_part, e_part1, e_slice, e_slice1, e_slice2, e_slice3, e_lstRg, e_lstRg1, e_lstRg2, e_iSeq, e_iSeq1, e_iSeq2, e_iEn, e_iEn1, e_iEn2, e_iR1, e_iR11, e_iR2, e_iR21, e_yes, e_lc, e_lc1, e_lc2, e_wipe0, e_wipe1, e_back0, e_back1, e_back2, e_noneOwn0, e_noneOwn1, e_noneOwn2, e_noneOwn3, e_noneOwn4, e_name, e_set, e_tNil, e_tCons, e_tCons1, e_tTup, e_seq, e_seq1, e_seq2, e_seq3, e_seq4, e_seq5, e_next, e_break, e_cont, e_expr, e_expr1, e_ret, e_ret1, e_sIf, e_sIf1, e_sIf2, e_asg, e_asg1, e_asg2, e_aug, e_aug0, e_aug1, e_aug2, e_aug3, e_par, e_par1, e_par2, e_app, e_app0, e_app1, e_app2, e_setIx, e_setIx0, e_setIx1, e_setIx2, e_setIx3, e_setIx4, e_match, e_match1, e_mCase, e_mAny, e_raise, e_for, e_body, e_body1, e_body2, e_body3, e_body4, e_body5, e_outs0, e_outs1, e_outs2, e_start0, e_start1, e_addI, e_addL, e_addI2, e_sub, e_cmp, e_eqI, e_neI, e_eqB, e_isN0, e_isN1, e_isN2, e_isN3, e_notN0, e_notN1, e_notN2, e_notN3, e_int, e_intB, e_max, e_min, e_neg, e_bits, e_lenL, e_lenT, e_lenS, e_ixL, e_ixT, e_ixS, e_at0, e_at1, e_at2, e_map, e_lstOf, e_lstOfS, e_seqOf, e_seqOfT, e_seqOfS, e_isiIB, e_isiII, e_isiTT, e_isiLL], _, t, _, _, _, rfl⟩)
  have sl : dSlice (scrD ns) none (some 6) = some (.list ((ns.take 6).map PyData.int), true) := slice_scr ns hns 6 (by omega)
  have ca := cells_app ns 6
  have cl := cells_len ns 6 (by omega)
  have l1 := l1
  have le : (cellsL ns 6).length ≤ LINE := by
    rw [← ca, List.length_append]
    exact cl
  refine ⟨false, [], ?_⟩
  simp only [m_law, b_law]
  generalize (ns.take 6).map PyData.int = TK at *
  generalize cellsL ns 6 = CL at *
  generalize scrD ns = SC at *
  simp [e_tUnl, e_ext, e_ext0, e_ext1, e_ext2, e_dix, e_dix1, e_dix2, e_look, e_rev, e_rev1, e_lr1, e_lr11, e_isE1, e_isE2, e_isE3, e_isE4, e_isE5, e_isE6, e_try, e_try1, e_try2, e_eqAS, e_neAS, e_eqAI, e_neAI, e_bind_ok, e_bind_exc, e_bind_stk, e_var, e_var1, e_var2, e_move, e_move1, e_move2, e_C, e_fin1, e_bin, e_bin1, e_bin2, e_chain, e_chain1, e_chain2, e_chain3, e_chain4, e_chain5, e_if, e_if1, e_if2, e_tv, e_tv1, e_notT, e_notT1, e_andT, e_andT1, e_andT2, e_orT, e_orT1, e_orT2, e_andV, e_andV1, e_andV2, e_orV, e_orV1, e_orV2, e_notV, e_notV1, e_aNil, e_aCons, e_aCons1, e_aCons2, e_star, e_star1, e_star2, e_star3, e_lst, e_lst1, e_tup, e_tup1, e_call, e_call1, e_slot, e_slot1, e_sb, e_sb0, e_sb1, e_sb2, e_sb3, e_bs, e_bs1, e_bs2, e_lenV, e_lenV1, e_un, e_un1, e_def, e_def1, e_def2, e_def3, e_fix0, e_fix1, e_fix2, e_def4, e_def0, e_def01, e_jNil, e_jVal, e_jVal1, e_j2, e_jIo, e_jIo1, e_itD0, e_itD1, e_itD2, e_itD3, e_itJ0, e_itJ1, e_itJ2, e_itP0, e_itP1, e_itP2, e_setMany0, e_setMany1, e_nodup0, e_nodup1, e_noPart, e_part, e_part1, e_slice, e_slice1, e_slice2, e_slice3, e_lstRg, e_lstRg1, e_lstRg2, e_iSeq, e_iSeq1, e_iSeq2, e_iEn, e_iEn1, e_iEn2, e_iR1, e_iR11, e_iR2, e_iR21, e_yes, e_lc, e_lc1, e_lc2, e_wipe0, e_wipe1, e_back0, e_back1, e_back2, e_noneOwn0, e_noneOwn1, e_noneOwn2, e_noneOwn3, e_noneOwn4, e_name, e_set, e_tNil, e_tCons, e_tCons1, e_tTup, e_seq, e_seq1, e_seq2, e_seq3, e_seq4, e_seq5, e_next, e_break, e_cont, e_expr, e_expr1, e_ret, e_ret1, e_sIf, e_sIf1, e_sIf2, e_asg, e_asg1, e_asg2, e_aug, e_aug0, e_aug1, e_aug2, e_aug3, e_par, e_par1, e_par2, e_app, e_app0, e_app1, e_app2, e_setIx, e_setIx0, e_setIx1, e_setIx2, e_setIx3, e_setIx4, e_match, e_match1, e_mCase, e_mAny, e_raise, e_for, e_body, e_body1, e_body2, e_body3, e_body4, e_body5, e_outs0, e_outs1, e_outs2, e_start0, e_start1, e_addI, e_addL, e_addI2, e_sub, e_cmp, e_eqI, e_neI, e_eqB, e_isN0, e_isN1, e_isN2, e_isN3, e_notN0, e_notN1, e_notN2, e_notN3, e_int, e_intB, e_max, e_min, e_neg, e_bits, e_lenL, e_lenT, e_lenS, e_ixL, e_ixT, e_ixS, e_at0, e_at1, e_at2, e_map, e_lstOf, e_lstOfS, e_seqOf, e_seqOfT, e_seqOfS, e_isiIB, e_isiII, e_isiTT, e_isiLL, sl, cl, ca, h1, l1, le]
end SM
namespace SM
open PySem PySem.Spec L2 DL
open PyProof.Rows hiding St
def top (i : Nat) : Stmt := PySem.Challenge.pw_storedtrees_k47_whole_texts.main.body.getD i (.Pass ⟨0, 0, 0, 0⟩)
abbrev s__law_bag : Stmt := top 44
abbrev s__law_begin : Stmt := top 52
abbrev s__law_pick : Stmt := top 45
abbrev s__law_node : Stmt := top 50
abbrev s__law_way : Stmt := top 49
abbrev s_is_int : Stmt := top 11
abbrev s_is_whole : Stmt := top 12
abbrev s_is_node : Stmt := top 13
abbrev s_node_text : Stmt := top 20
abbrev s_show_nodes : Stmt := top 22
abbrev s_require_height : Stmt := top 15
abbrev s_require_node : Stmt := top 16
abbrev s_require_kin : Stmt := top 36
abbrev s_children : Stmt := top 39
abbrev s_parent_of : Stmt := top 37
abbrev s_parent : Stmt := top 38
abbrev s_show_node : Stmt := top 21
abbrev s_require_kind : Stmt := top 14
abbrev s_require_tree : Stmt := top 32
abbrev s_plain_sums : Stmt := top 28
abbrev s_cut_levels : Stmt := top 27
abbrev s_sums_of : Stmt := top 29
abbrev s_spot_of : Stmt := top 30
abbrev s_place_of : Stmt := top 33
abbrev s__law_kinds : Stmt := top 46
abbrev s_require_place : Stmt := top 17
abbrev s_node_there : Stmt := top 31
abbrev s_node_at : Stmt := top 34
abbrev s_require_both : Stmt := top 41
abbrev s_meeting : Stmt := top 40
abbrev s_meet : Stmt := top 42
abbrev s_node_in : Stmt := top 23
abbrev s_read_nodes : Stmt := top 24
abbrev s__law_right : Stmt := top 53
abbrev s_law : Stmt := top 54
structure Ad where
  cl : Nat → Addr
  f__law_bag : Addr
  d__law_bag : FuncData
  f__law_begin : Addr
  d__law_begin : FuncData
  f__law_pick : Addr
  d__law_pick : FuncData
  f__law_node : Addr
  d__law_node : FuncData
  f__law_way : Addr
  d__law_way : FuncData
  f_is_int : Addr
  d_is_int : FuncData
  f_is_whole : Addr
  d_is_whole : FuncData
  f_is_node : Addr
  d_is_node : FuncData
  f_node_text : Addr
  d_node_text : FuncData
  f_show_nodes : Addr
  d_show_nodes : FuncData
  f_require_height : Addr
  d_require_height : FuncData
  f_require_node : Addr
  d_require_node : FuncData
  f_require_kin : Addr
  d_require_kin : FuncData
  f_children : Addr
  d_children : FuncData
  f_parent_of : Addr
  d_parent_of : FuncData
  f_parent : Addr
  d_parent : FuncData
  f_show_node : Addr
  d_show_node : FuncData
  f_require_kind : Addr
  d_require_kind : FuncData
  f_require_tree : Addr
  d_require_tree : FuncData
  f_plain_sums : Addr
  d_plain_sums : FuncData
  f_cut_levels : Addr
  d_cut_levels : FuncData
  f_sums_of : Addr
  d_sums_of : FuncData
  f_spot_of : Addr
  d_spot_of : FuncData
  f_place_of : Addr
  d_place_of : FuncData
  f__law_kinds : Addr
  d__law_kinds : FuncData
  f_require_place : Addr
  d_require_place : FuncData
  f_node_there : Addr
  d_node_there : FuncData
  f_node_at : Addr
  d_node_at : FuncData
  f_require_both : Addr
  d_require_both : FuncData
  f_meeting : Addr
  d_meeting : FuncData
  f_meet : Addr
  d_meet : FuncData
  f_node_in : Addr
  d_node_in : FuncData
  f_read_nodes : Addr
  d_read_nodes : FuncData
  f__law_right : Addr
  d__law_right : FuncData
  f_law : Addr
  d_law : FuncData
  a_CUT_KINDS : Addr
  a_KINDS : Addr
  k_MOST_HEIGHT : Tok
  k_MOST_NODES : Tok
def ct (K : PySem.W.Frag) (A : Ad) : Ct := ⟨K, A.cl, fun c => match c with | 1 => "item" | 2 => "part" | _ => "total"⟩
structure Txt (K : PySem.W.Frag) (mg : Str → Option Value) (A : Ad) : Prop where
  F__law_bag : Fun K "_law_bag" "_law_bag" s__law_bag A.f__law_bag A.d__law_bag
  m__law_bag : mg "_law_bag" = some (.ref A.f__law_bag)
  k__law_bag : PySem.W.keepIn K (.ref A.f__law_bag) = true
  b__law_bag : Binds K A.d__law_bag ["_law_cell"] []
  F__law_begin : Fun K "_law_begin" "_law_begin" s__law_begin A.f__law_begin A.d__law_begin
  m__law_begin : mg "_law_begin" = some (.ref A.f__law_begin)
  k__law_begin : PySem.W.keepIn K (.ref A.f__law_begin) = true
  b__law_begin : Binds K A.d__law_begin ["_law_text"] []
  F__law_pick : Fun K "_law_pick" "_law_pick" s__law_pick A.f__law_pick A.d__law_pick
  m__law_pick : mg "_law_pick" = some (.ref A.f__law_pick)
  k__law_pick : PySem.W.keepIn K (.ref A.f__law_pick) = true
  b__law_pick : Binds K A.d__law_pick ["_law_bag_here", "_law_many"] []
  F__law_node : Fun K "_law_node" "_law_node" s__law_node A.f__law_node A.d__law_node
  m__law_node : mg "_law_node" = some (.ref A.f__law_node)
  k__law_node : PySem.W.keepIn K (.ref A.f__law_node) = true
  b__law_node : Binds K A.d__law_node ["_law_bag_here", "_law_levels_here"] []
  F__law_way : Fun K "_law_way" "_law_way" s__law_way A.f__law_way A.d__law_way
  m__law_way : mg "_law_way" = some (.ref A.f__law_way)
  k__law_way : PySem.W.keepIn K (.ref A.f__law_way) = true
  b__law_way : Binds K A.d__law_way ["_law_node_here"] []
  F_is_int : Fun K "is_int" "is_int" s_is_int A.f_is_int A.d_is_int
  m_is_int : mg "is_int" = some (.ref A.f_is_int)
  k_is_int : PySem.W.keepIn K (.ref A.f_is_int) = true
  b_is_int : Binds K A.d_is_int ["value"] []
  F_is_whole : Fun K "is_whole" "is_whole" s_is_whole A.f_is_whole A.d_is_whole
  m_is_whole : mg "is_whole" = some (.ref A.f_is_whole)
  k_is_whole : PySem.W.keepIn K (.ref A.f_is_whole) = true
  b_is_whole : Binds K A.d_is_whole ["value", "low", "high"] []
  F_is_node : Fun K "is_node" "is_node" s_is_node A.f_is_node A.d_is_node
  m_is_node : mg "is_node" = some (.ref A.f_is_node)
  k_is_node : PySem.W.keepIn K (.ref A.f_is_node) = true
  b_is_node : Binds K A.d_is_node ["height", "value"] []
  F_node_text : Fun K "node_text" "node_text" s_node_text A.f_node_text A.d_node_text
  m_node_text : mg "node_text" = some (.ref A.f_node_text)
  k_node_text : PySem.W.keepIn K (.ref A.f_node_text) = true
  b_node_text : Binds K A.d_node_text ["node"] []
  F_show_nodes : Fun K "show_nodes" "show_nodes" s_show_nodes A.f_show_nodes A.d_show_nodes
  m_show_nodes : mg "show_nodes" = some (.ref A.f_show_nodes)
  k_show_nodes : PySem.W.keepIn K (.ref A.f_show_nodes) = true
  b_show_nodes : Binds K A.d_show_nodes ["nodes"] []
  F_require_height : Fun K "require_height" "require_height" s_require_height A.f_require_height A.d_require_height
  m_require_height : mg "require_height" = some (.ref A.f_require_height)
  k_require_height : PySem.W.keepIn K (.ref A.f_require_height) = true
  b_require_height : Binds K A.d_require_height ["value"] []
  F_require_node : Fun K "require_node" "require_node" s_require_node A.f_require_node A.d_require_node
  m_require_node : mg "require_node" = some (.ref A.f_require_node)
  k_require_node : PySem.W.keepIn K (.ref A.f_require_node) = true
  b_require_node : Binds K A.d_require_node ["height", "value"] []
  F_require_kin : Fun K "require_kin" "require_kin" s_require_kin A.f_require_kin A.d_require_kin
  m_require_kin : mg "require_kin" = some (.ref A.f_require_kin)
  k_require_kin : PySem.W.keepIn K (.ref A.f_require_kin) = true
  b_require_kin : Binds K A.d_require_kin ["height", "node"] []
  F_children : Fun K "children" "children" s_children A.f_children A.d_children
  m_children : mg "children" = some (.ref A.f_children)
  k_children : PySem.W.keepIn K (.ref A.f_children) = true
  b_children : Binds K A.d_children ["height", "node"] []
  F_parent_of : Fun K "parent_of" "parent_of" s_parent_of A.f_parent_of A.d_parent_of
  m_parent_of : mg "parent_of" = some (.ref A.f_parent_of)
  k_parent_of : PySem.W.keepIn K (.ref A.f_parent_of) = true
  b_parent_of : Binds K A.d_parent_of ["node"] []
  F_parent : Fun K "parent" "parent" s_parent A.f_parent A.d_parent
  m_parent : mg "parent" = some (.ref A.f_parent)
  k_parent : PySem.W.keepIn K (.ref A.f_parent) = true
  b_parent : Binds K A.d_parent ["height", "node"] []
  F_show_node : Fun K "show_node" "show_node" s_show_node A.f_show_node A.d_show_node
  m_show_node : mg "show_node" = some (.ref A.f_show_node)
  k_show_node : PySem.W.keepIn K (.ref A.f_show_node) = true
  b_show_node : Binds K A.d_show_node ["node"] []
  F_require_kind : Fun K "require_kind" "require_kind" s_require_kind A.f_require_kind A.d_require_kind
  m_require_kind : mg "require_kind" = some (.ref A.f_require_kind)
  k_require_kind : PySem.W.keepIn K (.ref A.f_require_kind) = true
  b_require_kind : Binds K A.d_require_kind ["value"] []
  F_require_tree : Fun K "require_tree" "require_tree" s_require_tree A.f_require_tree A.d_require_tree
  m_require_tree : mg "require_tree" = some (.ref A.f_require_tree)
  k_require_tree : PySem.W.keepIn K (.ref A.f_require_tree) = true
  b_require_tree : Binds K A.d_require_tree ["kind", "height"] []
  F_plain_sums : Fun K "plain_sums" "plain_sums" s_plain_sums A.f_plain_sums A.d_plain_sums
  m_plain_sums : mg "plain_sums" = some (.ref A.f_plain_sums)
  k_plain_sums : PySem.W.keepIn K (.ref A.f_plain_sums) = true
  b_plain_sums : Binds K A.d_plain_sums ["kind", "height", "depth"] []
  F_cut_levels : Fun K "cut_levels" "cut_levels" s_cut_levels A.f_cut_levels A.d_cut_levels
  m_cut_levels : mg "cut_levels" = some (.ref A.f_cut_levels)
  k_cut_levels : PySem.W.keepIn K (.ref A.f_cut_levels) = true
  b_cut_levels : Binds K A.d_cut_levels ["kind", "height"] []
  F_sums_of : Fun K "sums_of" "sums_of" s_sums_of A.f_sums_of A.d_sums_of
  m_sums_of : mg "sums_of" = some (.ref A.f_sums_of)
  k_sums_of : PySem.W.keepIn K (.ref A.f_sums_of) = true
  b_sums_of : Binds K A.d_sums_of ["kind", "height", "depth"] []
  F_spot_of : Fun K "spot_of" "spot_of" s_spot_of A.f_spot_of A.d_spot_of
  m_spot_of : mg "spot_of" = some (.ref A.f_spot_of)
  k_spot_of : PySem.W.keepIn K (.ref A.f_spot_of) = true
  b_spot_of : Binds K A.d_spot_of ["kind", "height", "node"] []
  F_place_of : Fun K "place_of" "place_of" s_place_of A.f_place_of A.d_place_of
  m_place_of : mg "place_of" = some (.ref A.f_place_of)
  k_place_of : PySem.W.keepIn K (.ref A.f_place_of) = true
  b_place_of : Binds K A.d_place_of ["kind", "height", "node"] []
  F__law_kinds : Fun K "_law_kinds" "_law_kinds" s__law_kinds A.f__law_kinds A.d__law_kinds
  m__law_kinds : mg "_law_kinds" = some (.ref A.f__law_kinds)
  k__law_kinds : PySem.W.keepIn K (.ref A.f__law_kinds) = true
  b__law_kinds : Binds K A.d__law_kinds [] []
  F_require_place : Fun K "require_place" "require_place" s_require_place A.f_require_place A.d_require_place
  m_require_place : mg "require_place" = some (.ref A.f_require_place)
  k_require_place : PySem.W.keepIn K (.ref A.f_require_place) = true
  b_require_place : Binds K A.d_require_place ["height", "value"] []
  F_node_there : Fun K "node_there" "node_there" s_node_there A.f_node_there A.d_node_there
  m_node_there : mg "node_there" = some (.ref A.f_node_there)
  k_node_there : PySem.W.keepIn K (.ref A.f_node_there) = true
  b_node_there : Binds K A.d_node_there ["kind", "height", "place"] []
  F_node_at : Fun K "node_at" "node_at" s_node_at A.f_node_at A.d_node_at
  m_node_at : mg "node_at" = some (.ref A.f_node_at)
  k_node_at : PySem.W.keepIn K (.ref A.f_node_at) = true
  b_node_at : Binds K A.d_node_at ["kind", "height", "place"] []
  F_require_both : Fun K "require_both" "require_both" s_require_both A.f_require_both A.d_require_both
  m_require_both : mg "require_both" = some (.ref A.f_require_both)
  k_require_both : PySem.W.keepIn K (.ref A.f_require_both) = true
  b_require_both : Binds K A.d_require_both ["height", "node", "second"] []
  F_meeting : Fun K "meeting" "meeting" s_meeting A.f_meeting A.d_meeting
  m_meeting : mg "meeting" = some (.ref A.f_meeting)
  k_meeting : PySem.W.keepIn K (.ref A.f_meeting) = true
  b_meeting : Binds K A.d_meeting ["node", "second"] []
  F_meet : Fun K "meet" "meet" s_meet A.f_meet A.d_meet
  m_meet : mg "meet" = some (.ref A.f_meet)
  k_meet : PySem.W.keepIn K (.ref A.f_meet) = true
  b_meet : Binds K A.d_meet ["height", "node", "second"] []
  F_node_in : Fun K "node_in" "node_in" s_node_in A.f_node_in A.d_node_in
  m_node_in : mg "node_in" = some (.ref A.f_node_in)
  k_node_in : PySem.W.keepIn K (.ref A.f_node_in) = true
  b_node_in : Binds K A.d_node_in ["word"] []
  F_read_nodes : Fun K "read_nodes" "read_nodes" s_read_nodes A.f_read_nodes A.d_read_nodes
  m_read_nodes : mg "read_nodes" = some (.ref A.f_read_nodes)
  k_read_nodes : PySem.W.keepIn K (.ref A.f_read_nodes) = true
  b_read_nodes : Binds K A.d_read_nodes ["text"] []
  F__law_right : Fun K "_law_right" "_law_right" s__law_right A.f__law_right A.d__law_right
  m__law_right : mg "_law_right" = some (.ref A.f__law_right)
  k__law_right : PySem.W.keepIn K (.ref A.f__law_right) = true
  b__law_right : Binds K A.d__law_right ["_law_bag_here", "_law_most"] []
  F_law : Fun K "law" "law" s_law A.f_law A.d_law
  m_law : mg "law" = some (.ref A.f_law)
  k_law : PySem.W.keepIn K (.ref A.f_law) = true
  b_law : Binds K A.d_law ["_law_script"] []
  c_MOST_HEIGHT : mg "MOST_HEIGHT" = some (.int 100 A.k_MOST_HEIGHT)
  c_MOST_NODES : mg "MOST_NODES" = some (.int 400 A.k_MOST_NODES)
  c_CUT_KINDS : mg "CUT_KINDS" = some (.ref A.a_CUT_KINDS)
  t_CUT_KINDS : StrTup K A.a_CUT_KINDS [z_lesser, z_greater, z_powers]
  c_KINDS : mg "KINDS" = some (.ref A.a_KINDS)
  t_KINDS : StrTup K A.a_KINDS [z_levels, z_inorder, z_preorder, z_postorder, z_lesser, z_greater, z_powers]
  xq_InvalidKind : PySem.W.excIn K (A.cl 4) [.type "ValueError", .type "Exception", .type "BaseException", .type "object"] "ValueError.__new__" = true
  xm_InvalidKind : mg "InvalidKind" = some (.ref (A.cl 4))
  xk_InvalidKind : PySem.W.keepIn K (.ref (A.cl 4)) = true
  xs_InvalidKind : PySem.W.subIn K (.ref (A.cl 4)) (.type "BaseException") = some true
  xt_InvalidKind : PySem.W.typeIn K (.ref (A.cl 4)) = some (.type "type")
  xq_InvalidHeight : PySem.W.excIn K (A.cl 5) [.type "ValueError", .type "Exception", .type "BaseException", .type "object"] "ValueError.__new__" = true
  xm_InvalidHeight : mg "InvalidHeight" = some (.ref (A.cl 5))
  xk_InvalidHeight : PySem.W.keepIn K (.ref (A.cl 5)) = true
  xs_InvalidHeight : PySem.W.subIn K (.ref (A.cl 5)) (.type "BaseException") = some true
  xt_InvalidHeight : PySem.W.typeIn K (.ref (A.cl 5)) = some (.type "type")
  xq_InvalidNode : PySem.W.excIn K (A.cl 6) [.type "ValueError", .type "Exception", .type "BaseException", .type "object"] "ValueError.__new__" = true
  xm_InvalidNode : mg "InvalidNode" = some (.ref (A.cl 6))
  xk_InvalidNode : PySem.W.keepIn K (.ref (A.cl 6)) = true
  xs_InvalidNode : PySem.W.subIn K (.ref (A.cl 6)) (.type "BaseException") = some true
  xt_InvalidNode : PySem.W.typeIn K (.ref (A.cl 6)) = some (.type "type")
  xq_InvalidPlace : PySem.W.excIn K (A.cl 8) [.type "ValueError", .type "Exception", .type "BaseException", .type "object"] "ValueError.__new__" = true
  xm_InvalidPlace : mg "InvalidPlace" = some (.ref (A.cl 8))
  xk_InvalidPlace : PySem.W.keepIn K (.ref (A.cl 8)) = true
  xs_InvalidPlace : PySem.W.subIn K (.ref (A.cl 8)) (.type "BaseException") = some true
  xt_InvalidPlace : PySem.W.typeIn K (.ref (A.cl 8)) = some (.type "type")
  n_all : mg "all" = none
  n_bool : mg "bool" = none
  n_enumerate : mg "enumerate" = none
  n_int : mg "int" = none
  n_isinstance : mg "isinstance" = none
  n_len : mg "len" = none
  n_list : mg "list" = none
  n_max : mg "max" = none
  n_min : mg "min" = none
  n_range : mg "range" = none
  n_str : mg "str" = none
  n_tuple : mg "tuple" = none
  n_zip : mg "zip" = none
section
variable {P : Program} {w : World} {K : PySem.W.Frag} {mg : Str → Option Value} {base : Heap} {A : Ad}
abbrev N__law_bag : List Str := ["_law_cell"]
theorem sc__law_bag : FnScope N__law_bag ["_law_cell"] (defScope s__law_bag) := ⟨rfl, rfl, rfl, by decide +kernel, rfl, by decide +kernel, by decide +kernel⟩
theorem ok__law_bag (T : Txt K mg A) : FnG P w K mg base (L2.CX P w) 1 A.f__law_bag A.d__law_bag ["_law_cell"] (spD (ct K A) [] 1 m__law_bag) :=
  fnD (io := []) T.F__law_bag sc__law_bag (by decide) (by decide) fun cdv Ar outer s H E => ioE fun F O _ _ _ _ hr hG => (pssd_one (psd_ret (pd_lst (pad_cons (pd_callB (call_max2 rfl) cd_max2 rfl T.n_max boot_max (pad_cons pd_int (pad_cons (pd_bin op_sub od_sub (pd_var (pv 0)) (pd_bin op_powW od_pow pd_int pd_int)) pad_nil))) (pad_cons (pd_var (pv 0)) (pad_cons pd_int pad_nil))))))
abbrev N__law_begin : List Str := ["_law_text"]
theorem sc__law_begin : FnScope N__law_begin ["_law_text"] (defScope s__law_begin) := ⟨rfl, rfl, rfl, by decide +kernel, rfl, by decide +kernel, by decide +kernel⟩
theorem ok__law_begin (T : Txt K mg A) : FnG P w K mg base (L2.CX P w) 1 A.f__law_begin A.d__law_begin ["_law_text"] (spD (ct K A) [] 1 m__law_begin) :=
  fnD (io := []) T.F__law_begin sc__law_begin (by decide) (by decide) fun cdv Ar outer s H E => ioE fun F O _ _ _ _ hr hG => (pssd_one (psd_ret (pd_if (ptd_cmp (op_eqA (u64 hr)) od_eqA (pd_var (pv 0)) (pd_str (y := z_h336d5ebc) (by decide +kernel)) rfl) (pd_str (y := z_) (by decide +kernel)) (pd_var (pv 0)))))
abbrev N__law_pick : List Str := ["_law_bag_here", "_law_many", "_law_told", "_law_seed", "_law_turn", "_law_first", "_law_second", "_law_drawn"]
theorem sc__law_pick : FnScope N__law_pick ["_law_bag_here", "_law_many"] (defScope s__law_pick) := ⟨rfl, rfl, rfl, by decide +kernel, rfl, by decide +kernel, by decide +kernel⟩
theorem ok__law_pick (T : Txt K mg A) : FnG P w K mg base (L2.CX P w) 1 A.f__law_pick A.d__law_pick ["_law_bag_here", "_law_many"] (spD (ct K A) [0] 2 m__law_pick) :=
  fnD (io := [0]) T.F__law_pick sc__law_pick (by decide) (by decide) fun cdv Ar outer s H E => ioE fun F O _ _ _ _ hr hG => (pssd_cons (psd_setIx (pd_bin op_addA od_add (pd_ixV (pv 0) pd_int) pd_int) (pv 0) pd_int (ps_asg (pd_bin op_addA od_add (pd_ixV (pv 0) pd_int) pd_int) (pg_sub (pv 0) pd_int set_list)))
  (pssd_cons (psd_if (ptd_cmp op_gt od_cmp (pd_ixV (pv 0) pd_int) pd_int rfl) (pssd_cons (psd_set sc__law_pick.nd rfl (by first | exact Or.inl rfl | exact Or.inr rfl) (pd_bin op_mod od_mod (pd_callTy call_int1 cd_int rfl T.n_int boot_int (pad_cons (pd_ixV (pv 0) pd_int) pad_nil)) (pd_var (pv 1))))
  (pssd_cons (psd_setIx (pd_bin op_fdivW od_div (pd_callTy call_int1 cd_int rfl T.n_int boot_int (pad_cons (pd_ixV (pv 0) pd_int) pad_nil)) (pd_var (pv 1))) (pv 0) pd_int (ps_asg (pd_bin op_fdivW od_div (pd_callTy call_int1 cd_int rfl T.n_int boot_int (pad_cons (pd_ixV (pv 0) pd_int) pad_nil)) (pd_var (pv 1))) (pg_sub (pv 0) pd_int set_list)))
  (pssd_one (psd_ret (pd_move (pv 2)))))) pssd_nil)
  (pssd_cons (psd_par (io := [0]) rfl rfl sc__law_pick.nd rfl rfl (by decide) rfl rfl (pd_callTy call_int1 cd_int rfl T.n_int boot_int (pad_cons (pd_ixV (pv 0) pd_int) pad_nil)) (ioE fun F O _ _ _ _ => (pd_callTy call_int1 cd_int rfl T.n_int boot_int (pad_cons (pd_ixV (pv 0) pd_int) pad_nil))) rfl)
  (pssd_cons (psd_set sc__law_pick.nd rfl (by first | exact Or.inl rfl | exact Or.inr rfl) (pd_bin op_mod od_mod (pd_callTy call_int1 cd_int rfl T.n_int boot_int (pad_cons (pd_bin op_addA od_add (pd_bin op_addA od_add (pd_bin op_mulA od_mul (pd_bin op_mod od_mod (pd_var (pv 3)) pd_int) pd_int) (pd_bin op_mulA od_mul (pd_var (pv 4)) pd_int)) pd_int) pad_nil)) pd_int))
  (pssd_cons (psd_set sc__law_pick.nd rfl (by first | exact Or.inl rfl | exact Or.inr rfl) (pd_bin op_mod od_mod (pd_callTy call_int1 cd_int rfl T.n_int boot_int (pad_cons (pd_bin op_addA od_add (pd_bin op_mulA od_mul (pd_var (pv 5)) (pd_var (pv 5))) (pd_bin op_mulA od_mul (pd_var (pv 4)) pd_int)) pad_nil)) pd_int))
  (pssd_cons (psd_set sc__law_pick.nd rfl (by first | exact Or.inl rfl | exact Or.inr rfl) (pd_bin op_fdivW od_div (pd_callTy call_int1 cd_int rfl T.n_int boot_int (pad_cons (pd_bin op_addA od_add (pd_bin op_mulA od_mul (pd_var (pv 5)) pd_int) (pd_var (pv 6))) pad_nil)) pd_int))
  (pssd_cons (psd_if (ptd_cmp op_gt od_cmp (pd_var (pv 1)) (pd_bin op_powW od_pow pd_int pd_int) rfl) (pssd_one (psd_set sc__law_pick.nd rfl (by first | exact Or.inl rfl | exact Or.inr rfl) (pd_bin op_addA od_add (pd_bin op_powW od_pow (pd_var (pv 7)) pd_int) (pd_var (pv 6))))) pssd_nil)
  (pssd_one (psd_ret (pd_bin op_mod od_mod (pd_callTy call_int1 cd_int rfl T.n_int boot_int (pad_cons (pd_var (pv 7)) pad_nil)) (pd_var (pv 1))))))))))))
abbrev N__law_node : List Str := ["_law_bag_here", "_law_levels_here", "_law_down"]
theorem sc__law_node : FnScope N__law_node ["_law_bag_here", "_law_levels_here"] (defScope s__law_node) := ⟨rfl, rfl, rfl, by decide +kernel, rfl, by decide +kernel, by decide +kernel⟩
theorem ok__law_node (T : Txt K mg A) : FnG P w K mg base (L2.CX P w) 2 A.f__law_node A.d__law_node ["_law_bag_here", "_law_levels_here"] (spD (ct K A) [0] 2 m__law_node) :=
  fnD (io := [0]) T.F__law_node sc__law_node (by decide) (by decide) fun cdv Ar outer s H E => ioE fun F O _ _ _ _ hr hG => (pssd_cons (psd_set sc__law_node.nd rfl (by first | exact Or.inl rfl | exact Or.inr rfl) (pd_ix (pd_lst (pad_cons (pd_call (ok__law_pick T) (by exact takes_of rfl rfl rfl rfl) hG (hr.mono (by omega)) rfl T.m__law_pick T.k__law_pick T.b__law_pick (pjd_io (pv 0) (pjd_val (pd_var (pv 1)) pjd_nil)) (cn_io (cn_val cn_nil))) (pad_cons (pd_bin op_sub od_sub (pd_bin op_sub od_sub (pd_var (pv 1)) pd_int) (pd_call (ok__law_pick T) (by exact takes_of rfl rfl rfl rfl) hG (hr.mono (by omega)) rfl T.m__law_pick T.k__law_pick T.b__law_pick (pjd_io (pv 0) (pjd_val (pd_callB (call_min2 rfl) cd_min2 rfl T.n_min boot_min (pad_cons pd_int (pad_cons (pd_var (pv 1)) pad_nil))) pjd_nil)) (cn_io (cn_val cn_nil)))) pad_nil))) (pd_call (ok__law_pick T) (by exact takes_of rfl rfl rfl rfl) hG (hr.mono (by omega)) rfl T.m__law_pick T.k__law_pick T.b__law_pick (pjd_io (pv 0) (pjd_val pd_int pjd_nil)) (cn_io (cn_val cn_nil)))))
  (pssd_one (psd_ret (pd_tup (pad_cons (pd_var (pv 2)) (pad_cons (pd_call (ok__law_pick T) (by exact takes_of rfl rfl rfl rfl) hG (hr.mono (by omega)) rfl T.m__law_pick T.k__law_pick T.b__law_pick (pjd_io (pv 0) (pjd_val (pd_bin op_shlW od_shl pd_int (pd_var (pv 2))) pjd_nil)) (cn_io (cn_val cn_nil))) pad_nil))))))
abbrev N__law_way : List Str := ["_law_node_here", "_law_down"]
theorem sc__law_way : FnScope N__law_way ["_law_node_here"] (defScope s__law_way) := ⟨rfl, rfl, rfl, by decide +kernel, rfl, by decide +kernel, by decide +kernel⟩
theorem ok__law_way (T : Txt K mg A) : FnG P w K mg base (L2.CX P w) 1 A.f__law_way A.d__law_way ["_law_node_here"] (spD (ct K A) [] 1 m__law_way) :=
  fnD (io := []) T.F__law_way sc__law_way (by decide) (by decide) fun cdv Ar outer s H E => ioE fun F O _ _ _ _ hr hG => (pssd_one (psd_ret (pd_lc (io := []) (own := [("_law_down", 1)]) rfl (by decide) (by dsimp only [List.map]; decide) rfl sc__law_way.nd (pid_rg1 rfl T.n_range (pad_cons (pd_bin op_addA od_add (pd_ixV (pv 0) pd_int) pd_int) pad_nil)) (by show BlkOk N__law_way (defScope s__law_way) _ _; exact ⟨rfl, by decide +kernel, by decide +kernel, by decide +kernel, by decide +kernel⟩) (fun s H Ca cl fp => ioE fun F O _ _ _ _ => (pgd_name (pg_name sc__law_way.nd rfl (by first | exact Or.inl rfl | exact Or.inr rfl)))) (fun s H Ca cl fp => ioE fun F O _ _ _ _ => ptsd_nil) (fun s H Ca cl fp => ioE fun F O _ _ _ _ => (pd_tup (pad_cons (pd_var (pv 1)) (pad_cons (pd_bin op_shr od_shr (pd_ixV (pv 0) pd_int) (pd_bin op_sub od_sub (pd_ixV (pv 0) pd_int) (pd_var (pv 1)))) pad_nil)))))))
abbrev N_is_int : List Str := ["value"]
theorem sc_is_int : FnScope N_is_int ["value"] (defScope s_is_int) := ⟨rfl, rfl, rfl, by decide +kernel, rfl, by decide +kernel, by decide +kernel⟩
theorem ok_is_int (T : Txt K mg A) : FnG P w K mg base (L2.CX P w) 1 A.f_is_int A.d_is_int ["value"] (spD (ct K A) [] 1 m_is_int) :=
  fnD (io := []) T.F_is_int sc_is_int (by decide) (by decide) fun cdv Ar outer s H E => ioE fun F O _ _ _ _ hr hG => (pssd_one (psd_ret (pd_and (pd_callB call_isi cd_isi rfl T.n_isinstance boot_isinstance (pad_cons (pd_var (pv 0)) (pad_cons (pd_tyb (k := 0) rfl T.n_int boot_int rfl) pad_nil))) (pd_one (pd_not (pd_callB call_isi cd_isi rfl T.n_isinstance boot_isinstance (pad_cons (pd_var (pv 0)) (pad_cons (pd_tyb (k := 1) rfl T.n_bool boot_bool rfl) pad_nil))))))))
abbrev N_is_whole : List Str := ["value", "low", "high"]
theorem sc_is_whole : FnScope N_is_whole ["value", "low", "high"] (defScope s_is_whole) := ⟨rfl, rfl, rfl, by decide +kernel, rfl, by decide +kernel, by decide +kernel⟩
theorem ok_is_whole (T : Txt K mg A) : FnG P w K mg base (L2.CX P w) 2 A.f_is_whole A.d_is_whole ["value", "low", "high"] (spD (ct K A) [] 3 m_is_whole) :=
  fnD (io := []) T.F_is_whole sc_is_whole (by decide) (by decide) fun cdv Ar outer s H E => ioE fun F O _ _ _ _ hr hG => (pssd_one (psd_ret (pd_and (pd_call (ok_is_int T) (by exact takes_of rfl rfl rfl rfl) hG (hr.mono (by omega)) rfl T.m_is_int T.k_is_int T.b_is_int (pjd_val (pd_var (pv 0)) pjd_nil) (cn_val cn_nil)) (pd_one (pd_chain op_le od_cmp op_le od_cmp (pd_var (pv 1)) (pd_var (pv 0)) (pd_var (pv 2)))))))
abbrev N_is_node : List Str := ["height", "value"]
theorem sc_is_node : FnScope N_is_node ["height", "value"] (defScope s_is_node) := ⟨rfl, rfl, rfl, by decide +kernel, rfl, by decide +kernel, by decide +kernel⟩
theorem ok_is_node (T : Txt K mg A) : FnG P w K mg base (L2.CX P w) 3 A.f_is_node A.d_is_node ["height", "value"] (spD (ct K A) [] 2 m_is_node) :=
  fnD (io := []) T.F_is_node sc_is_node (by decide) (by decide) fun cdv Ar outer s H E => ioE fun F O _ _ _ _ hr hG => (pssd_cons (psd_if (PW.pt (pwd_or (ptd_not (ptd_val (pd_callB call_isi cd_isi rfl T.n_isinstance boot_isinstance (pad_cons (pd_var (pv 1)) (pad_cons (pd_tyb (k := 3) rfl T.n_tuple boot_tuple rfl) pad_nil))))) (pwd_or (ptd_cmp (op_neA (u64 hr)) od_neA (pd_lenV call_len rfl T.n_len (pv 1)) pd_int rfl) (pwd_or1 (ptd_not (ptd_val (pd_call (ok_is_whole T) (by exact takes_of rfl rfl rfl rfl) hG (hr.mono (by omega)) rfl T.m_is_whole T.k_is_whole T.b_is_whole (pjd_val (pd_ixV (pv 1) pd_int) (pjd_val pd_int (pjd_val (pd_bin op_sub od_sub (pd_var (pv 0)) pd_int) pjd_nil))) (cn_val (cn_val (cn_val cn_nil)))))))))) (pssd_one (psd_ret pd_bl)) pssd_nil)
  (pssd_one (psd_ret (pd_call (ok_is_whole T) (by exact takes_of rfl rfl rfl rfl) hG (hr.mono (by omega)) rfl T.m_is_whole T.k_is_whole T.b_is_whole (pjd_val (pd_ixV (pv 1) pd_int) (pjd_val pd_int (pjd_val (pd_bin op_sub od_sub (pd_bin op_shlW od_shl pd_int (pd_ixV (pv 1) pd_int)) pd_int) pjd_nil))) (cn_val (cn_val (cn_val cn_nil)))))))
abbrev N_node_text : List Str := ["node", "depth", "number", "step"]
theorem sc_node_text : FnScope N_node_text ["node"] (defScope s_node_text) := ⟨rfl, rfl, rfl, by decide +kernel, rfl, by decide +kernel, by decide +kernel⟩
theorem ok_node_text (T : Txt K mg A) : FnG P w K mg base (L2.CX P w) 1 A.f_node_text A.d_node_text ["node"] (spD (ct K A) [] 1 m_node_text) :=
  fnD (io := []) T.F_node_text sc_node_text (by decide) (by decide) fun cdv Ar outer s H E => ioE fun F O _ _ _ _ hr hG => (pssd_cons (psd_asg (pd_var (pv 0)) (pgd_tup rfl (pgds_cons (pgd_name (pg_name sc_node_text.nd rfl (by first | exact Or.inl rfl | exact Or.inr rfl))) (pgds_cons (pgd_name (pg_name sc_node_text.nd rfl (by first | exact Or.inl rfl | exact Or.inr rfl))) pgds_nil)) (gtCons_len (gtCons_len gtNil_len))))
  (pssd_cons (psd_if (ptd_cmp (op_eqA (u64 hr)) od_eqA (pd_var (pv 1)) pd_int rfl) (pssd_one (psd_ret (pd_str (y := z_h336d5ebc) (by decide +kernel)))) pssd_nil)
  (pssd_one (psd_ret (pd_join (pd_str (y := z_) (by decide +kernel)) (pd_lc (io := []) (own := [("step", 3)]) rfl (by decide) (by dsimp only [List.map]; decide) rfl sc_node_text.nd (pid_rg1 rfl T.n_range (pad_cons (pd_var (pv 1)) pad_nil)) (by show BlkOk N_node_text (defScope s_node_text) _ _; exact ⟨rfl, by decide +kernel, by decide +kernel, by decide +kernel, by decide +kernel⟩) (fun s H Ca cl fp => ioE fun F O _ _ _ _ => (pgd_name (pg_name sc_node_text.nd rfl (by first | exact Or.inl rfl | exact Or.inr rfl)))) (fun s H Ca cl fp => ioE fun F O _ _ _ _ => ptsd_nil) (fun s H Ca cl fp => ioE fun F O _ _ _ _ => (pd_ix (pd_str (y := z_LR) (by decide +kernel)) (pd_bin op_and od_and (pd_bin op_shr od_shr (pd_var (pv 2)) (pd_bin op_sub od_sub (pd_bin op_sub od_sub (pd_var (pv 1)) pd_int) (pd_var (pv 3)))) pd_int)))))))))
abbrev N_show_nodes : List Str := ["nodes", "item", "node"]
theorem sc_show_nodes : FnScope N_show_nodes ["nodes"] (defScope s_show_nodes) := ⟨rfl, rfl, rfl, by decide +kernel, rfl, by decide +kernel, by decide +kernel⟩
theorem ok_show_nodes (T : Txt K mg A) : FnG P w K mg base (L2.CX P w) 4 A.f_show_nodes A.d_show_nodes ["nodes"] (spD (ct K A) [] 1 m_show_nodes) :=
  fnD (io := []) T.F_show_nodes sc_show_nodes (by decide) (by decide) fun cdv Ar outer s H E => ioE fun F O _ _ _ _ hr hG => (pssd_cons (psd_if (PW.pt (pwd_or (ptd_not (ptd_val (pd_callB call_isi cd_isi rfl T.n_isinstance boot_isinstance (pad_cons (pd_var (pv 0)) (pad_cons (pd_tyb (k := 4) rfl T.n_list boot_list rfl) pad_nil))))) (pwd_or1 (ptd_cmp op_gt od_cmp (pd_lenV call_len rfl T.n_len (pv 0)) (pd_globI rfl T.c_MOST_NODES) rfl)))) (pssd_one psd_stk) pssd_nil)
  (pssd_cons (psd_for (by exact passes_of rfl) rfl (pid_enum rfl T.n_enumerate (pd_var (pv 0))) (pgd_tup rfl (pgds_cons (pgd_name (pg_name sc_show_nodes.nd rfl (by first | exact Or.inl rfl | exact Or.inr rfl))) (pgds_cons (pgd_name (pg_name sc_show_nodes.nd rfl (by first | exact Or.inl rfl | exact Or.inr rfl))) pgds_nil)) (gtCons_len (gtCons_len gtNil_len))) (pssd_one (psd_if (ptd_not (ptd_val (pd_call (ok_is_node T) (by exact takes_of rfl rfl rfl rfl) hG (hr.mono (by omega)) rfl T.m_is_node T.k_is_node T.b_is_node (pjd_val (pd_globI rfl T.c_MOST_HEIGHT) (pjd_val (pd_var (pv 2)) pjd_nil)) (cn_val (cn_val cn_nil))))) (pssd_one psd_stk) pssd_nil)))
  (pssd_one (psd_ret (pd_join (pd_str (y := z_h7215ee9c) (by decide +kernel)) (pd_lc (io := []) (own := [("node", 2)]) rfl (by decide) (by dsimp only [List.map]; decide) rfl sc_show_nodes.nd (pid_seq (pd_var (pv 0))) (by show BlkOk N_show_nodes (defScope s_show_nodes) _ _; exact ⟨rfl, by decide +kernel, by decide +kernel, by decide +kernel, by decide +kernel⟩) (fun s H Ca cl fp => ioE fun F O _ _ _ _ => (pgd_name (pg_name sc_show_nodes.nd rfl (by first | exact Or.inl rfl | exact Or.inr rfl)))) (fun s H Ca cl fp => ioE fun F O _ _ _ _ => ptsd_nil) (fun s H Ca cl fp => ioE fun F O _ _ _ _ => (pd_call (ok_node_text T) takes0 hG (hr.mono (by omega)) rfl T.m_node_text T.k_node_text T.b_node_text (pjd_val (pd_var (pv 2)) pjd_nil) (cn_val cn_nil)))))))))
abbrev N_require_height : List Str := ["value"]
theorem sc_require_height : FnScope N_require_height ["value"] (defScope s_require_height) := ⟨rfl, rfl, rfl, by decide +kernel, rfl, by decide +kernel, by decide +kernel⟩
theorem ok_require_height (T : Txt K mg A) : FnG P w K mg base (L2.CX P w) 3 A.f_require_height A.d_require_height ["value"] (spD (ct K A) [] 1 m_require_height) :=
  fnD (io := []) T.F_require_height sc_require_height (by decide) (by decide) fun cdv Ar outer s H E => ioE fun F O _ _ _ _ hr hG => (pssd_one (psd_if (ptd_not (ptd_val (pd_call (ok_is_whole T) (by exact takes_of rfl rfl rfl rfl) hG (hr.mono (by omega)) rfl T.m_is_whole T.k_is_whole T.b_is_whole (pjd_val (pd_var (pv 0)) (pjd_val pd_int (pjd_val (pd_globI rfl T.c_MOST_HEIGHT) pjd_nil))) (cn_val (cn_val (cn_val cn_nil)))))) (pssd_one (psd_raiseX (c := 5) rfl (by exact takes_of rfl rfl rfl rfl) T.xq_InvalidHeight T.xm_InvalidHeight T.xk_InvalidHeight T.xs_InvalidHeight T.xt_InvalidHeight rfl)) pssd_nil))
abbrev N_require_node : List Str := ["height", "value"]
theorem sc_require_node : FnScope N_require_node ["height", "value"] (defScope s_require_node) := ⟨rfl, rfl, rfl, by decide +kernel, rfl, by decide +kernel, by decide +kernel⟩
theorem ok_require_node (T : Txt K mg A) : FnG P w K mg base (L2.CX P w) 4 A.f_require_node A.d_require_node ["height", "value"] (spD (ct K A) [] 2 m_require_node) :=
  fnD (io := []) T.F_require_node sc_require_node (by decide) (by decide) fun cdv Ar outer s H E => ioE fun F O _ _ _ _ hr hG => (pssd_one (psd_if (ptd_not (ptd_val (pd_call (ok_is_node T) (by exact takes_of rfl rfl rfl rfl) hG (hr.mono (by omega)) rfl T.m_is_node T.k_is_node T.b_is_node (pjd_val (pd_var (pv 0)) (pjd_val (pd_var (pv 1)) pjd_nil)) (cn_val (cn_val cn_nil))))) (pssd_one (psd_raiseX (c := 6) rfl (by exact takes_of rfl rfl rfl rfl) T.xq_InvalidNode T.xm_InvalidNode T.xk_InvalidNode T.xs_InvalidNode T.xt_InvalidNode rfl)) pssd_nil))
abbrev N_require_kin : List Str := ["height", "node"]
theorem sc_require_kin : FnScope N_require_kin ["height", "node"] (defScope s_require_kin) := ⟨rfl, rfl, rfl, by decide +kernel, rfl, by decide +kernel, by decide +kernel⟩
theorem ok_require_kin (T : Txt K mg A) : FnG P w K mg base (L2.CX P w) 5 A.f_require_kin A.d_require_kin ["height", "node"] (spD (ct K A) [] 2 m_require_kin) :=
  fnD (io := []) T.F_require_kin sc_require_kin (by decide) (by decide) fun cdv Ar outer s H E => ioE fun F O _ _ _ _ hr hG => (pssd_cons (psd_expr (pd_call (ok_require_height T) (by exact takes_of rfl rfl rfl rfl) hG (hr.mono (by omega)) rfl T.m_require_height T.k_require_height T.b_require_height (pjd_val (pd_var (pv 0)) pjd_nil) (cn_val cn_nil)))
  (pssd_one (psd_expr (pd_call (ok_require_node T) (by exact takes_of rfl rfl rfl rfl) hG (hr.mono (by omega)) rfl T.m_require_node T.k_require_node T.b_require_node (pjd_val (pd_var (pv 0)) (pjd_val (pd_var (pv 1)) pjd_nil)) (cn_val (cn_val cn_nil))))))
abbrev N_children : List Str := ["height", "node", "depth", "number"]
theorem sc_children : FnScope N_children ["height", "node"] (defScope s_children) := ⟨rfl, rfl, rfl, by decide +kernel, rfl, by decide +kernel, by decide +kernel⟩
theorem ok_children (T : Txt K mg A) : FnG P w K mg base (L2.CX P w) 6 A.f_children A.d_children ["height", "node"] (spD (ct K A) [] 2 m_children) :=
  fnD (io := []) T.F_children sc_children (by decide) (by decide) fun cdv Ar outer s H E => ioE fun F O _ _ _ _ hr hG => (pssd_cons (psd_expr (pd_call (ok_require_kin T) (by exact takes_of rfl rfl rfl rfl) hG (hr.mono (by omega)) rfl T.m_require_kin T.k_require_kin T.b_require_kin (pjd_val (pd_var (pv 0)) (pjd_val (pd_var (pv 1)) pjd_nil)) (cn_val (cn_val cn_nil))))
  (pssd_cons (psd_asg (pd_var (pv 1)) (pgd_tup rfl (pgds_cons (pgd_name (pg_name sc_children.nd rfl (by first | exact Or.inl rfl | exact Or.inr rfl))) (pgds_cons (pgd_name (pg_name sc_children.nd rfl (by first | exact Or.inl rfl | exact Or.inr rfl))) pgds_nil)) (gtCons_len (gtCons_len gtNil_len))))
  (pssd_cons (psd_if (ptd_cmp (op_eqA (u64 hr)) od_eqA (pd_bin op_addA od_add (pd_var (pv 2)) pd_int) (pd_var (pv 0)) rfl) (pssd_one (psd_ret pd_non)) pssd_nil)
  (pssd_one (psd_ret (pd_tup (pad_cons (pd_tup (pad_cons (pd_bin op_addA od_add (pd_var (pv 2)) pd_int) (pad_cons (pd_bin op_mulA od_mul pd_int (pd_var (pv 3))) pad_nil))) (pad_cons (pd_tup (pad_cons (pd_bin op_addA od_add (pd_var (pv 2)) pd_int) (pad_cons (pd_bin op_addA od_add (pd_bin op_mulA od_mul pd_int (pd_var (pv 3))) pd_int) pad_nil))) pad_nil))))))))
abbrev N_parent_of : List Str := ["node"]
theorem sc_parent_of : FnScope N_parent_of ["node"] (defScope s_parent_of) := ⟨rfl, rfl, rfl, by decide +kernel, rfl, by decide +kernel, by decide +kernel⟩
theorem ok_parent_of (T : Txt K mg A) : FnG P w K mg base (L2.CX P w) 1 A.f_parent_of A.d_parent_of ["node"] (spD (ct K A) [] 1 m_parent_of) :=
  fnD (io := []) T.F_parent_of sc_parent_of (by decide) (by decide) fun cdv Ar outer s H E => ioE fun F O _ _ _ _ hr hG => (pssd_one (psd_ret (pd_tup (pad_cons (pd_bin op_sub od_sub (pd_ixV (pv 0) pd_int) pd_int) (pad_cons (pd_bin op_shr od_shr (pd_ixV (pv 0) pd_int) pd_int) pad_nil)))))
abbrev N_parent : List Str := ["height", "node"]
theorem sc_parent : FnScope N_parent ["height", "node"] (defScope s_parent) := ⟨rfl, rfl, rfl, by decide +kernel, rfl, by decide +kernel, by decide +kernel⟩
theorem ok_parent (T : Txt K mg A) : FnG P w K mg base (L2.CX P w) 6 A.f_parent A.d_parent ["height", "node"] (spD (ct K A) [] 2 m_parent) :=
  fnD (io := []) T.F_parent sc_parent (by decide) (by decide) fun cdv Ar outer s H E => ioE fun F O _ _ _ _ hr hG => (pssd_cons (psd_expr (pd_call (ok_require_kin T) (by exact takes_of rfl rfl rfl rfl) hG (hr.mono (by omega)) rfl T.m_require_kin T.k_require_kin T.b_require_kin (pjd_val (pd_var (pv 0)) (pjd_val (pd_var (pv 1)) pjd_nil)) (cn_val (cn_val cn_nil))))
  (pssd_one (psd_ret (pd_if (ptd_cmp op_gt od_cmp (pd_ixV (pv 1) pd_int) pd_int rfl) (pd_call (ok_parent_of T) (by exact takes_of rfl rfl rfl rfl) hG (hr.mono (by omega)) rfl T.m_parent_of T.k_parent_of T.b_parent_of (pjd_val (pd_var (pv 1)) pjd_nil) (cn_val cn_nil)) pd_non))))
abbrev N_show_node : List Str := ["node"]
theorem sc_show_node : FnScope N_show_node ["node"] (defScope s_show_node) := ⟨rfl, rfl, rfl, by decide +kernel, rfl, by decide +kernel, by decide +kernel⟩
theorem ok_show_node (T : Txt K mg A) : FnG P w K mg base (L2.CX P w) 5 A.f_show_node A.d_show_node ["node"] (spD (ct K A) [] 1 m_show_node) :=
  fnD (io := []) T.F_show_node sc_show_node (by decide) (by decide) fun cdv Ar outer s H E => ioE fun F O _ _ _ _ hr hG => (pssd_cons (psd_expr (pd_call (ok_require_node T) (by exact takes_of rfl rfl rfl rfl) hG (hr.mono (by omega)) rfl T.m_require_node T.k_require_node T.b_require_node (pjd_val (pd_globI rfl T.c_MOST_HEIGHT) (pjd_val (pd_var (pv 0)) pjd_nil)) (cn_val (cn_val cn_nil))))
  (pssd_one (psd_ret (pd_call (ok_node_text T) (by exact takes_of rfl rfl rfl rfl) hG (hr.mono (by omega)) rfl T.m_node_text T.k_node_text T.b_node_text (pjd_val (pd_var (pv 0)) pjd_nil) (cn_val cn_nil)))))
abbrev N_require_kind : List Str := ["value"]
theorem sc_require_kind : FnScope N_require_kind ["value"] (defScope s_require_kind) := ⟨rfl, rfl, rfl, by decide +kernel, rfl, by decide +kernel, by decide +kernel⟩
theorem ok_require_kind (T : Txt K mg A) : FnG P w K mg base (L2.CX P w) 1 A.f_require_kind A.d_require_kind ["value"] (spD (ct K A) [] 1 m_require_kind) :=
  fnD (io := []) T.F_require_kind sc_require_kind (by decide) (by decide) fun cdv Ar outer s H E => ioE fun F O _ _ _ _ hr hG => (pssd_one (psd_if (PW.pt (pwd_or (ptd_not (ptd_val (pd_callB call_isi cd_isi rfl T.n_isinstance boot_isinstance (pad_cons (pd_var (pv 0)) (pad_cons (pd_tyb (k := 2) rfl T.n_str boot_str rfl) pad_nil))))) (pwd_or1 (ptd_cmp (op_notInA (u65 hr)) od_notIn (pd_var (pv 0)) (pd_globT rfl T.c_KINDS T.t_KINDS) rfl)))) (pssd_one (psd_raiseX (c := 4) rfl (by exact takes_of rfl rfl rfl rfl) T.xq_InvalidKind T.xm_InvalidKind T.xk_InvalidKind T.xs_InvalidKind T.xt_InvalidKind rfl)) pssd_nil))
abbrev N_require_tree : List Str := ["kind", "height"]
theorem sc_require_tree : FnScope N_require_tree ["kind", "height"] (defScope s_require_tree) := ⟨rfl, rfl, rfl, by decide +kernel, rfl, by decide +kernel, by decide +kernel⟩
theorem ok_require_tree (T : Txt K mg A) : FnG P w K mg base (L2.CX P w) 4 A.f_require_tree A.d_require_tree ["kind", "height"] (spD (ct K A) [] 2 m_require_tree) :=
  fnD (io := []) T.F_require_tree sc_require_tree (by decide) (by decide) fun cdv Ar outer s H E => ioE fun F O _ _ _ _ hr hG => (pssd_cons (psd_expr (pd_call (ok_require_kind T) (by exact takes_of rfl rfl rfl rfl) hG (hr.mono (by omega)) rfl T.m_require_kind T.k_require_kind T.b_require_kind (pjd_val (pd_var (pv 0)) pjd_nil) (cn_val cn_nil)))
  (pssd_one (psd_expr (pd_call (ok_require_height T) (by exact takes_of rfl rfl rfl rfl) hG (hr.mono (by omega)) rfl T.m_require_height T.k_require_height T.b_require_height (pjd_val (pd_var (pv 1)) pjd_nil) (cn_val cn_nil)))))
abbrev N_plain_sums : List Str := ["kind", "height", "depth", "steps", "step"]
theorem sc_plain_sums : FnScope N_plain_sums ["kind", "height", "depth"] (defScope s_plain_sums) := ⟨rfl, rfl, rfl, by decide +kernel, rfl, by decide +kernel, by decide +kernel⟩
theorem ok_plain_sums (T : Txt K mg A) : FnG P w K mg base (L2.CX P w) 1 A.f_plain_sums A.d_plain_sums ["kind", "height", "depth"] (spD (ct K A) [] 3 m_plain_sums) :=
  fnD (io := []) T.F_plain_sums sc_plain_sums (by decide) (by decide) fun cdv Ar outer s H E => ioE fun F O _ _ _ _ hr hG => (pssd_cons (psd_set sc_plain_sums.nd rfl (by first | exact Or.inl rfl | exact Or.inr rfl) (pd_listRg2 rfl rfl T.n_list rfl T.n_range pd_int (pd_bin op_addA od_add (pd_var (pv 2)) pd_int)))
  (pssd_one (psd_match (pd_var (pv 0)) (pmd_case (lit' := z_levels) (by decide +kernel) (pssd_one (psd_ret (pd_tup (pad_cons (pd_bin op_sub od_sub (pd_bin op_shlW od_shl pd_int (pd_var (pv 2))) pd_int) (pad_cons (pd_lc (io := []) (own := [("step", 4)]) rfl (by decide) (by dsimp only [List.map]; decide) rfl sc_plain_sums.nd (pid_seq (pd_var (pv 3))) (by show BlkOk N_plain_sums (defScope s_plain_sums) _ _; exact ⟨rfl, by decide +kernel, by decide +kernel, by decide +kernel, by decide +kernel⟩) (fun s H Ca cl fp => ioE fun F O _ _ _ _ => (pgd_name (pg_name sc_plain_sums.nd rfl (by first | exact Or.inl rfl | exact Or.inr rfl)))) (fun s H Ca cl fp => ioE fun F O _ _ _ _ => ptsd_nil) (fun s H Ca cl fp => ioE fun F O _ _ _ _ => (pd_bin op_shlW od_shl pd_int (pd_bin op_sub od_sub (pd_var (pv 2)) (pd_var (pv 4)))))) pad_nil)))))
  (pmd_case (lit' := z_inorder) (by decide +kernel) (pssd_one (psd_ret (pd_tup (pad_cons (pd_bin op_sub od_sub (pd_bin op_shlW od_shl pd_int (pd_bin op_sub od_sub (pd_bin op_sub od_sub (pd_var (pv 1)) pd_int) (pd_var (pv 2)))) pd_int) (pad_cons (pd_lc (io := []) (own := [("step", 4)]) rfl (by decide) (by dsimp only [List.map]; decide) rfl sc_plain_sums.nd (pid_seq (pd_var (pv 3))) (by show BlkOk N_plain_sums (defScope s_plain_sums) _ _; exact ⟨rfl, by decide +kernel, by decide +kernel, by decide +kernel, by decide +kernel⟩) (fun s H Ca cl fp => ioE fun F O _ _ _ _ => (pgd_name (pg_name sc_plain_sums.nd rfl (by first | exact Or.inl rfl | exact Or.inr rfl)))) (fun s H Ca cl fp => ioE fun F O _ _ _ _ => ptsd_nil) (fun s H Ca cl fp => ioE fun F O _ _ _ _ => (pd_bin op_shlW od_shl pd_int (pd_bin op_sub od_sub (pd_var (pv 1)) (pd_var (pv 4)))))) pad_nil)))))
  (pmd_case (lit' := z_preorder) (by decide +kernel) (pssd_one (psd_ret (pd_tup (pad_cons (pd_var (pv 2)) (pad_cons (pd_lc (io := []) (own := [("step", 4)]) rfl (by decide) (by dsimp only [List.map]; decide) rfl sc_plain_sums.nd (pid_seq (pd_var (pv 3))) (by show BlkOk N_plain_sums (defScope s_plain_sums) _ _; exact ⟨rfl, by decide +kernel, by decide +kernel, by decide +kernel, by decide +kernel⟩) (fun s H Ca cl fp => ioE fun F O _ _ _ _ => (pgd_name (pg_name sc_plain_sums.nd rfl (by first | exact Or.inl rfl | exact Or.inr rfl)))) (fun s H Ca cl fp => ioE fun F O _ _ _ _ => ptsd_nil) (fun s H Ca cl fp => ioE fun F O _ _ _ _ => (pd_bin op_sub od_sub (pd_bin op_shlW od_shl pd_int (pd_bin op_sub od_sub (pd_var (pv 1)) (pd_var (pv 4)))) pd_int))) pad_nil)))))
  (pmd_any (pssd_one (psd_ret (pd_tup (pad_cons (pd_bin op_sub od_sub (pd_bin op_shlW od_shl pd_int (pd_bin op_sub od_sub (pd_var (pv 1)) (pd_var (pv 2)))) pd_int) (pad_cons (pd_lc (io := []) (own := [("step", 4)]) rfl (by decide) (by dsimp only [List.map]; decide) rfl sc_plain_sums.nd (pid_seq (pd_var (pv 3))) (by show BlkOk N_plain_sums (defScope s_plain_sums) _ _; exact ⟨rfl, by decide +kernel, by decide +kernel, by decide +kernel, by decide +kernel⟩) (fun s H Ca cl fp => ioE fun F O _ _ _ _ => (pgd_name (pg_name sc_plain_sums.nd rfl (by first | exact Or.inl rfl | exact Or.inr rfl)))) (fun s H Ca cl fp => ioE fun F O _ _ _ _ => ptsd_nil) (fun s H Ca cl fp => ioE fun F O _ _ _ _ => (pd_bin op_sub od_sub (pd_bin op_shlW od_shl pd_int (pd_bin op_sub od_sub (pd_var (pv 1)) (pd_var (pv 4)))) pd_int))) pad_nil))))))))))))
abbrev N_cut_levels : List Str := ["kind", "height"]
theorem sc_cut_levels : FnScope N_cut_levels ["kind", "height"] (defScope s_cut_levels) := ⟨rfl, rfl, rfl, by decide +kernel, rfl, by decide +kernel, by decide +kernel⟩
theorem ok_cut_levels (T : Txt K mg A) : FnG P w K mg base (L2.CX P w) 1 A.f_cut_levels A.d_cut_levels ["kind", "height"] (spD (ct K A) [] 2 m_cut_levels) :=
  fnD (io := []) T.F_cut_levels sc_cut_levels (by decide) (by decide) fun cdv Ar outer s H E => ioE fun F O _ _ _ _ hr hG => (pssd_cons (psd_if (PW.pt (pwd_or (ptd_cmp (op_notInA (u65 hr)) od_notIn (pd_var (pv 0)) (pd_globT rfl T.c_CUT_KINDS T.t_CUT_KINDS) rfl) (pwd_or1 (ptd_cmp (op_eqA (u64 hr)) od_eqA (pd_var (pv 1)) pd_int rfl)))) (pssd_one (psd_ret pd_non)) pssd_nil)
  (pssd_cons (psd_if (ptd_cmp (op_eqA (u64 hr)) od_eqA (pd_var (pv 0)) (pd_str (y := z_lesser) (by decide +kernel)) rfl) (pssd_one (psd_ret (pd_bin op_fdivW od_div (pd_var (pv 1)) pd_int))) pssd_nil)
  (pssd_cons (psd_if (ptd_cmp (op_eqA (u64 hr)) od_eqA (pd_var (pv 0)) (pd_str (y := z_greater) (by decide +kernel)) rfl) (pssd_one (psd_ret (pd_bin op_fdivW od_div (pd_bin op_addA od_add (pd_var (pv 1)) pd_int) pd_int))) pssd_nil)
  (pssd_one (psd_ret (pd_bin op_sub od_sub (pd_var (pv 1)) (pd_bin op_shlW od_shl pd_int (pd_bin op_sub od_sub (pd_bits (pd_bin op_sub od_sub (pd_var (pv 1)) pd_int)) pd_int))))))))
abbrev N_sums_of : List Str := ["kind", "height", "depth", "number", "found", "levels", "left", "top", "size", "step"]
theorem sc_sums_of : FnScope N_sums_of ["kind", "height", "depth"] (defScope s_sums_of) := ⟨rfl, rfl, rfl, by decide +kernel, rfl, by decide +kernel, by decide +kernel⟩
theorem ok_sums_of (T : Txt K mg A) : FnG P w K mg base (L2.CX P w) 2 A.f_sums_of A.d_sums_of ["kind", "height", "depth"] (spD (ct K A) [] 3 m_sums_of) :=
  fnD (io := []) T.F_sums_of sc_sums_of (by decide) (by decide) fun cdv Ar outer s H E => ioE fun F O _ _ _ _ hr hG => (pssd_cons (psd_if (ptd_cmp (op_notInA (u65 hr)) od_notIn (pd_var (pv 0)) (pd_globT rfl T.c_CUT_KINDS T.t_CUT_KINDS) rfl) (pssd_one (psd_ret (pd_call (ok_plain_sums T) (by exact takes_of rfl rfl rfl rfl) hG (hr.mono (by omega)) rfl T.m_plain_sums T.k_plain_sums T.b_plain_sums (pjd_val (pd_var (pv 0)) (pjd_val (pd_var (pv 1)) (pjd_val (pd_var (pv 2)) pjd_nil))) (cn_val (cn_val (cn_val cn_nil)))))) pssd_nil)
  (pssd_cons (psd_asg (pd_tup (pad_cons pd_int (pad_cons (pd_lst pad_nil) (pad_cons (pd_var (pv 1)) (pad_cons (pd_var (pv 2)) pad_nil))))) (pgd_tup rfl (pgds_cons (pgd_name (pg_name sc_sums_of.nd rfl (by first | exact Or.inl rfl | exact Or.inr rfl))) (pgds_cons (pgd_name (pg_name sc_sums_of.nd rfl (by first | exact Or.inl rfl | exact Or.inr rfl))) (pgds_cons (pgd_name (pg_name sc_sums_of.nd rfl (by first | exact Or.inl rfl | exact Or.inr rfl))) (pgds_cons (pgd_name (pg_name sc_sums_of.nd rfl (by first | exact Or.inl rfl | exact Or.inr rfl))) pgds_nil)))) (gtCons_len (gtCons_len (gtCons_len (gtCons_len gtNil_len))))))
  (pssd_cons (psd_while (by exact passes_of rfl) (ptd_cmp op_gt od_cmp (pd_var (pv 5)) pd_int rfl) (pssd_cons (psd_set sc_sums_of.nd rfl (by first | exact Or.inl rfl | exact Or.inr rfl) (pd_call (ok_cut_levels T) (by exact takes_of rfl rfl rfl rfl) hG (hr.mono (by omega)) rfl T.m_cut_levels T.k_cut_levels T.b_cut_levels (pjd_val (pd_var (pv 0)) (pjd_val (pd_var (pv 5)) pjd_nil)) (cn_val (cn_val cn_nil))))
  (pssd_one (psd_if (ptd_cmp op_lt od_cmp (pd_var (pv 6)) (pd_var (pv 7)) rfl) (pssd_one (psd_set sc_sums_of.nd rfl (by first | exact Or.inl rfl | exact Or.inr rfl) (pd_var (pv 7)))) (pssd_cons (psd_set sc_sums_of.nd rfl (by first | exact Or.inl rfl | exact Or.inr rfl) (pd_bin op_sub od_sub (pd_bin op_shlW od_shl pd_int (pd_bin op_sub od_sub (pd_var (pv 5)) (pd_var (pv 7)))) pd_int))
  (pssd_cons (psd_aug sc_sums_of.nd rfl (by first | exact Or.inl rfl | exact Or.inr rfl) (pd_bin op_sub od_sub (pd_bin op_shlW od_shl pd_int (pd_var (pv 7))) pd_int) iop_add od_addI)
  (pssd_cons (psd_set sc_sums_of.nd rfl (by first | exact Or.inl rfl | exact Or.inr rfl) (pd_lst (pad_star (pd_var (pv 4)) (pad_star (pd_lc (io := []) (own := [("step", 9)]) rfl (by decide) (by dsimp only [List.map]; decide) rfl sc_sums_of.nd (pid_rg2 rfl T.n_range (pad_cons pd_int (pad_cons (pd_bin op_addA od_add (pd_var (pv 7)) pd_int) pad_nil))) (by show BlkOk N_sums_of (defScope s_sums_of) _ _; exact ⟨rfl, by decide +kernel, by decide +kernel, by decide +kernel, by decide +kernel⟩) (fun s H Ca cl fp => ioE fun F O _ _ _ _ => (pgd_name (pg_name sc_sums_of.nd rfl (by first | exact Or.inl rfl | exact Or.inr rfl)))) (fun s H Ca cl fp => ioE fun F O _ _ _ _ => ptsd_nil) (fun s H Ca cl fp => ioE fun F O _ _ _ _ => (pd_bin op_shlW od_shl (pd_var (pv 8)) (pd_bin op_sub od_sub (pd_var (pv 7)) (pd_var (pv 9)))))) pad_nil))))
  (pssd_one (psd_par (io := []) rfl rfl sc_sums_of.nd rfl rfl (by decide) rfl rfl (pd_bin op_sub od_sub (pd_var (pv 5)) (pd_var (pv 7))) (ioE fun F O _ _ _ _ => (pd_bin op_sub od_sub (pd_var (pv 6)) (pd_var (pv 7)))) rfl)))))))))
  (pssd_one (psd_ret (pd_tup (pad_cons (pd_var (pv 3)) (pad_cons (pd_var (pv 4)) pad_nil))))))))
abbrev N_spot_of : List Str := ["kind", "height", "node", "depth", "number", "found", "sums", "step", "weight"]
theorem sc_spot_of : FnScope N_spot_of ["kind", "height", "node"] (defScope s_spot_of) := ⟨rfl, rfl, rfl, by decide +kernel, rfl, by decide +kernel, by decide +kernel⟩
theorem ok_spot_of (T : Txt K mg A) : FnG P w K mg base (L2.CX P w) 3 A.f_spot_of A.d_spot_of ["kind", "height", "node"] (spD (ct K A) [] 3 m_spot_of) :=
  fnD (io := []) T.F_spot_of sc_spot_of (by decide) (by decide) fun cdv Ar outer s H E => ioE fun F O _ _ _ _ hr hG => (pssd_cons (psd_asg (pd_var (pv 2)) (pgd_tup rfl (pgds_cons (pgd_name (pg_name sc_spot_of.nd rfl (by first | exact Or.inl rfl | exact Or.inr rfl))) (pgds_cons (pgd_name (pg_name sc_spot_of.nd rfl (by first | exact Or.inl rfl | exact Or.inr rfl))) pgds_nil)) (gtCons_len (gtCons_len gtNil_len))))
  (pssd_cons (psd_asg (pd_call (ok_sums_of T) (by exact takes_of rfl rfl rfl rfl) hG (hr.mono (by omega)) rfl T.m_sums_of T.k_sums_of T.b_sums_of (pjd_val (pd_var (pv 0)) (pjd_val (pd_var (pv 1)) (pjd_val (pd_var (pv 3)) pjd_nil))) (cn_val (cn_val (cn_val cn_nil)))) (pgd_tup rfl (pgds_cons (pgd_name (pg_name sc_spot_of.nd rfl (by first | exact Or.inl rfl | exact Or.inr rfl))) (pgds_cons (pgd_name (pg_name sc_spot_of.nd rfl (by first | exact Or.inl rfl | exact Or.inr rfl))) pgds_nil)) (gtCons_len (gtCons_len gtNil_len))))
  (pssd_cons (psd_for (by exact passes_of rfl) rfl (pid_enum rfl T.n_enumerate (pd_var (pv 6))) (pgd_tup rfl (pgds_cons (pgd_name (pg_name sc_spot_of.nd rfl (by first | exact Or.inl rfl | exact Or.inr rfl))) (pgds_cons (pgd_name (pg_name sc_spot_of.nd rfl (by first | exact Or.inl rfl | exact Or.inr rfl))) pgds_nil)) (gtCons_len (gtCons_len gtNil_len))) (pssd_one (psd_if (ptd_cmp (op_eqA (u64 hr)) od_eqA (pd_bin op_and od_and (pd_bin op_shr od_shr (pd_var (pv 4)) (pd_bin op_sub od_sub (pd_bin op_sub od_sub (pd_var (pv 3)) pd_int) (pd_var (pv 7)))) pd_int) pd_int rfl) (pssd_one (psd_aug sc_spot_of.nd rfl (by first | exact Or.inl rfl | exact Or.inr rfl) (pd_var (pv 8)) iop_add od_addI)) pssd_nil)))
  (pssd_one (psd_ret (pd_move (pv 5)))))))
abbrev N_place_of : List Str := ["kind", "height", "node"]
theorem sc_place_of : FnScope N_place_of ["kind", "height", "node"] (defScope s_place_of) := ⟨rfl, rfl, rfl, by decide +kernel, rfl, by decide +kernel, by decide +kernel⟩
theorem ok_place_of (T : Txt K mg A) : FnG P w K mg base (L2.CX P w) 5 A.f_place_of A.d_place_of ["kind", "height", "node"] (spD (ct K A) [] 3 m_place_of) :=
  fnD (io := []) T.F_place_of sc_place_of (by decide) (by decide) fun cdv Ar outer s H E => ioE fun F O _ _ _ _ hr hG => (pssd_cons (psd_expr (pd_call (ok_require_tree T) (by exact takes_of rfl rfl rfl rfl) hG (hr.mono (by omega)) rfl T.m_require_tree T.k_require_tree T.b_require_tree (pjd_val (pd_var (pv 0)) (pjd_val (pd_var (pv 1)) pjd_nil)) (cn_val (cn_val cn_nil))))
  (pssd_cons (psd_expr (pd_call (ok_require_node T) (by exact takes_of rfl rfl rfl rfl) hG (hr.mono (by omega)) rfl T.m_require_node T.k_require_node T.b_require_node (pjd_val (pd_var (pv 1)) (pjd_val (pd_var (pv 2)) pjd_nil)) (cn_val (cn_val cn_nil))))
  (pssd_one (psd_ret (pd_call (ok_spot_of T) (by exact takes_of rfl rfl rfl rfl) hG (hr.mono (by omega)) rfl T.m_spot_of T.k_spot_of T.b_spot_of (pjd_val (pd_var (pv 0)) (pjd_val (pd_var (pv 1)) (pjd_val (pd_var (pv 2)) pjd_nil))) (cn_val (cn_val (cn_val cn_nil))))))))
abbrev N__law_kinds : List Str := []
theorem sc__law_kinds : FnScope N__law_kinds [] (defScope s__law_kinds) := ⟨rfl, rfl, rfl, by decide +kernel, rfl, by decide +kernel, by decide +kernel⟩
theorem ok__law_kinds (T : Txt K mg A) : FnG P w K mg base (L2.CX P w) 1 A.f__law_kinds A.d__law_kinds [] (spD (ct K A) [] 0 m__law_kinds) :=
  fnD (io := []) T.F__law_kinds sc__law_kinds (by decide) (by decide) fun cdv Ar outer s H E => ioE fun F O _ _ _ _ hr hG => (pssd_one (psd_ret (pd_lst (pad_cons (pd_str (y := z_levels) (by decide +kernel)) (pad_cons (pd_str (y := z_inorder) (by decide +kernel)) (pad_cons (pd_str (y := z_preorder) (by decide +kernel)) (pad_cons (pd_str (y := z_postorder) (by decide +kernel)) (pad_cons (pd_str (y := z_lesser) (by decide +kernel)) (pad_cons (pd_str (y := z_greater) (by decide +kernel)) (pad_cons (pd_str (y := z_powers) (by decide +kernel)) pad_nil))))))))))
abbrev N_require_place : List Str := ["height", "value"]
theorem sc_require_place : FnScope N_require_place ["height", "value"] (defScope s_require_place) := ⟨rfl, rfl, rfl, by decide +kernel, rfl, by decide +kernel, by decide +kernel⟩
theorem ok_require_place (T : Txt K mg A) : FnG P w K mg base (L2.CX P w) 3 A.f_require_place A.d_require_place ["height", "value"] (spD (ct K A) [] 2 m_require_place) :=
  fnD (io := []) T.F_require_place sc_require_place (by decide) (by decide) fun cdv Ar outer s H E => ioE fun F O _ _ _ _ hr hG => (pssd_one (psd_if (ptd_not (ptd_val (pd_call (ok_is_whole T) (by exact takes_of rfl rfl rfl rfl) hG (hr.mono (by omega)) rfl T.m_is_whole T.k_is_whole T.b_is_whole (pjd_val (pd_var (pv 1)) (pjd_val pd_int (pjd_val (pd_bin op_sub od_sub (pd_bin op_shlW od_shl pd_int (pd_var (pv 0))) pd_int) pjd_nil))) (cn_val (cn_val (cn_val cn_nil)))))) (pssd_one (psd_raiseX (c := 8) rfl (by exact takes_of rfl rfl rfl rfl) T.xq_InvalidPlace T.xm_InvalidPlace T.xk_InvalidPlace T.xs_InvalidPlace T.xt_InvalidPlace rfl)) pssd_nil))
abbrev N_node_there : List Str := ["kind", "height", "place", "depth", "number", "sums", "left", "steps", "weight"]
theorem sc_node_there : FnScope N_node_there ["kind", "height", "place"] (defScope s_node_there) := ⟨rfl, rfl, rfl, by decide +kernel, rfl, by decide +kernel, by decide +kernel⟩
theorem ok_node_there (T : Txt K mg A) : FnG P w K mg base (L2.CX P w) 3 A.f_node_there A.d_node_there ["kind", "height", "place"] (spD (ct K A) [] 3 m_node_there) :=
  fnD (io := []) T.F_node_there sc_node_there (by decide) (by decide) fun cdv Ar outer s H E => ioE fun F O _ _ _ _ hr hG => (pssd_cons (psd_for (by exact passes_of rfl) rfl (pid_rg1 rfl T.n_range (pad_cons (pd_var (pv 1)) pad_nil)) (pgd_name (pg_name sc_node_there.nd rfl (by first | exact Or.inl rfl | exact Or.inr rfl))) (pssd_cons (psd_asg (pd_call (ok_sums_of T) (by exact takes_of rfl rfl rfl rfl) hG (hr.mono (by omega)) rfl T.m_sums_of T.k_sums_of T.b_sums_of (pjd_val (pd_var (pv 0)) (pjd_val (pd_var (pv 1)) (pjd_val (pd_var (pv 3)) pjd_nil))) (cn_val (cn_val (cn_val cn_nil)))) (pgd_tup rfl (pgds_cons (pgd_name (pg_name sc_node_there.nd rfl (by first | exact Or.inl rfl | exact Or.inr rfl))) (pgds_cons (pgd_name (pg_name sc_node_there.nd rfl (by first | exact Or.inl rfl | exact Or.inr rfl))) pgds_nil)) (gtCons_len (gtCons_len gtNil_len))))
  (pssd_cons (psd_par (io := []) rfl rfl sc_node_there.nd rfl rfl (by decide) rfl rfl (pd_bin op_sub od_sub (pd_var (pv 2)) (pd_var (pv 4))) (ioE fun F O _ _ _ _ => pd_int) rfl)
  (pssd_cons (psd_for (by exact passes_of rfl) rfl (pid_seq (pd_var (pv 5))) (pgd_name (pg_name sc_node_there.nd rfl (by first | exact Or.inl rfl | exact Or.inr rfl))) (pssd_cons (psd_aug sc_node_there.nd rfl (by first | exact Or.inl rfl | exact Or.inr rfl) pd_int iop_shlW od_shl)
  (pssd_one (psd_if (ptd_cmp op_ge od_cmp (pd_var (pv 6)) (pd_var (pv 8)) rfl) (pssd_one (psd_par (io := []) rfl rfl sc_node_there.nd rfl rfl (by decide) rfl rfl (pd_bin op_sub od_sub (pd_var (pv 6)) (pd_var (pv 8))) (ioE fun F O _ _ _ _ => (pd_bin op_addA od_add (pd_var (pv 7)) pd_int)) rfl)) pssd_nil))))
  (pssd_one (psd_if (ptd_cmp (op_eqA (u64 hr)) od_eqA (pd_var (pv 6)) pd_int rfl) (pssd_one (psd_ret (pd_tup (pad_cons (pd_var (pv 3)) (pad_cons (pd_var (pv 7)) pad_nil))))) pssd_nil))))))
  (pssd_one (psd_ret pd_non)))
abbrev N_node_at : List Str := ["kind", "height", "place"]
theorem sc_node_at : FnScope N_node_at ["kind", "height", "place"] (defScope s_node_at) := ⟨rfl, rfl, rfl, by decide +kernel, rfl, by decide +kernel, by decide +kernel⟩
theorem ok_node_at (T : Txt K mg A) : FnG P w K mg base (L2.CX P w) 5 A.f_node_at A.d_node_at ["kind", "height", "place"] (spD (ct K A) [] 3 m_node_at) :=
  fnD (io := []) T.F_node_at sc_node_at (by decide) (by decide) fun cdv Ar outer s H E => ioE fun F O _ _ _ _ hr hG => (pssd_cons (psd_expr (pd_call (ok_require_tree T) (by exact takes_of rfl rfl rfl rfl) hG (hr.mono (by omega)) rfl T.m_require_tree T.k_require_tree T.b_require_tree (pjd_val (pd_var (pv 0)) (pjd_val (pd_var (pv 1)) pjd_nil)) (cn_val (cn_val cn_nil))))
  (pssd_cons (psd_expr (pd_call (ok_require_place T) (by exact takes_of rfl rfl rfl rfl) hG (hr.mono (by omega)) rfl T.m_require_place T.k_require_place T.b_require_place (pjd_val (pd_var (pv 1)) (pjd_val (pd_var (pv 2)) pjd_nil)) (cn_val (cn_val cn_nil))))
  (pssd_one (psd_ret (pd_call (ok_node_there T) (by exact takes_of rfl rfl rfl rfl) hG (hr.mono (by omega)) rfl T.m_node_there T.k_node_there T.b_node_there (pjd_val (pd_var (pv 0)) (pjd_val (pd_var (pv 1)) (pjd_val (pd_var (pv 2)) pjd_nil))) (cn_val (cn_val (cn_val cn_nil))))))))
abbrev N_require_both : List Str := ["height", "node", "second"]
theorem sc_require_both : FnScope N_require_both ["height", "node", "second"] (defScope s_require_both) := ⟨rfl, rfl, rfl, by decide +kernel, rfl, by decide +kernel, by decide +kernel⟩
theorem ok_require_both (T : Txt K mg A) : FnG P w K mg base (L2.CX P w) 6 A.f_require_both A.d_require_both ["height", "node", "second"] (spD (ct K A) [] 3 m_require_both) :=
  fnD (io := []) T.F_require_both sc_require_both (by decide) (by decide) fun cdv Ar outer s H E => ioE fun F O _ _ _ _ hr hG => (pssd_cons (psd_expr (pd_call (ok_require_kin T) (by exact takes_of rfl rfl rfl rfl) hG (hr.mono (by omega)) rfl T.m_require_kin T.k_require_kin T.b_require_kin (pjd_val (pd_var (pv 0)) (pjd_val (pd_var (pv 1)) pjd_nil)) (cn_val (cn_val cn_nil))))
  (pssd_one (psd_expr (pd_call (ok_require_node T) (by exact takes_of rfl rfl rfl rfl) hG (hr.mono (by omega)) rfl T.m_require_node T.k_require_node T.b_require_node (pjd_val (pd_var (pv 0)) (pjd_val (pd_var (pv 2)) pjd_nil)) (cn_val (cn_val cn_nil))))))
abbrev N_meeting : List Str := ["node", "second", "depth", "one", "other", "unlike"]
theorem sc_meeting : FnScope N_meeting ["node", "second"] (defScope s_meeting) := ⟨rfl, rfl, rfl, by decide +kernel, rfl, by decide +kernel, by decide +kernel⟩
theorem ok_meeting (T : Txt K mg A) : FnG P w K mg base (L2.CX P w) 1 A.f_meeting A.d_meeting ["node", "second"] (spD (ct K A) [] 2 m_meeting) :=
  fnD (io := []) T.F_meeting sc_meeting (by decide) (by decide) fun cdv Ar outer s H E => ioE fun F O _ _ _ _ hr hG => (pssd_cons (psd_set sc_meeting.nd rfl (by first | exact Or.inl rfl | exact Or.inr rfl) (pd_callB (call_min2 rfl) cd_min2 rfl T.n_min boot_min (pad_cons (pd_ixV (pv 0) pd_int) (pad_cons (pd_ixV (pv 1) pd_int) pad_nil))))
  (pssd_cons (psd_par (io := []) rfl rfl sc_meeting.nd rfl rfl (by decide) rfl rfl (pd_bin op_shr od_shr (pd_ixV (pv 0) pd_int) (pd_bin op_sub od_sub (pd_ixV (pv 0) pd_int) (pd_var (pv 2)))) (ioE fun F O _ _ _ _ => (pd_bin op_shr od_shr (pd_ixV (pv 1) pd_int) (pd_bin op_sub od_sub (pd_ixV (pv 1) pd_int) (pd_var (pv 2))))) rfl)
  (pssd_cons (psd_set sc_meeting.nd rfl (by first | exact Or.inl rfl | exact Or.inr rfl) (pd_bits (pd_bin op_xor od_xor (pd_var (pv 3)) (pd_var (pv 4)))))
  (pssd_one (psd_ret (pd_tup (pad_cons (pd_bin op_sub od_sub (pd_var (pv 2)) (pd_var (pv 5))) (pad_cons (pd_bin op_shr od_shr (pd_var (pv 3)) (pd_var (pv 5))) pad_nil))))))))
abbrev N_meet : List Str := ["height", "node", "second"]
theorem sc_meet : FnScope N_meet ["height", "node", "second"] (defScope s_meet) := ⟨rfl, rfl, rfl, by decide +kernel, rfl, by decide +kernel, by decide +kernel⟩
theorem ok_meet (T : Txt K mg A) : FnG P w K mg base (L2.CX P w) 7 A.f_meet A.d_meet ["height", "node", "second"] (spD (ct K A) [] 3 m_meet) :=
  fnD (io := []) T.F_meet sc_meet (by decide) (by decide) fun cdv Ar outer s H E => ioE fun F O _ _ _ _ hr hG => (pssd_cons (psd_expr (pd_call (ok_require_both T) (by exact takes_of rfl rfl rfl rfl) hG (hr.mono (by omega)) rfl T.m_require_both T.k_require_both T.b_require_both (pjd_val (pd_var (pv 0)) (pjd_val (pd_var (pv 1)) (pjd_val (pd_var (pv 2)) pjd_nil))) (cn_val (cn_val (cn_val cn_nil)))))
  (pssd_one (psd_ret (pd_call (ok_meeting T) (by exact takes_of rfl rfl rfl rfl) hG (hr.mono (by omega)) rfl T.m_meeting T.k_meeting T.b_meeting (pjd_val (pd_var (pv 1)) (pjd_val (pd_var (pv 2)) pjd_nil)) (cn_val (cn_val cn_nil))))))
abbrev N_node_in : List Str := ["word", "number", "sign"]
theorem sc_node_in : FnScope N_node_in ["word"] (defScope s_node_in) := ⟨rfl, rfl, rfl, by decide +kernel, rfl, by decide +kernel, by decide +kernel⟩
theorem ok_node_in (T : Txt K mg A) : FnG P w K mg base (L2.CX P w) 1 A.f_node_in A.d_node_in ["word"] (spD (ct K A) [] 1 m_node_in) :=
  fnD (io := []) T.F_node_in sc_node_in (by decide) (by decide) fun cdv Ar outer s H E => ioE fun F O _ _ _ _ hr hG => (pssd_cons (psd_if (ptd_cmp (op_eqA (u64 hr)) od_eqA (pd_var (pv 0)) (pd_str (y := z_h336d5ebc) (by decide +kernel)) rfl) (pssd_one (psd_ret (pd_tup (pad_cons pd_int (pad_cons pd_int pad_nil))))) pssd_nil)
  (pssd_cons (psd_if (PW.pt (pwd_or (ptd_cmp (op_eqA (u64 hr)) od_eqA (pd_var (pv 0)) (pd_str (y := z_) (by decide +kernel)) rfl) (pwd_or (ptd_cmp op_ge od_cmp (pd_lenV call_len rfl T.n_len (pv 0)) (pd_globI rfl T.c_MOST_HEIGHT) rfl) (pwd_or1 (ptd_not (ptd_val (pd_callB (cr_all rfl) cd_all rfl T.n_all boot_all (pad_cons (pd_lc (io := []) (own := [("sign", 2)]) rfl (by decide) (by dsimp only [List.map]; decide) rfl sc_node_in.nd (pid_str (pd_var (pv 0))) (by show BlkOk N_node_in (defScope s_node_in) _ _; exact ⟨rfl, by decide +kernel, by decide +kernel, by decide +kernel, by decide +kernel⟩) (fun s H Ca cl fp => ioE fun F O _ _ _ _ => (pgd_name (pg_name sc_node_in.nd rfl (by first | exact Or.inl rfl | exact Or.inr rfl)))) (fun s H Ca cl fp => ioE fun F O _ _ _ _ => ptsd_nil) (fun s H Ca cl fp => ioE fun F O _ _ _ _ => (pd_cmp op_in_sign od_inS (pd_var (pv 2)) (pd_str (y := z_LR) (by decide +kernel)) rfl))) pad_nil)))))))) (pssd_one (psd_ret pd_non)) pssd_nil)
  (pssd_cons (psd_set sc_node_in.nd rfl (by first | exact Or.inl rfl | exact Or.inr rfl) pd_int)
  (pssd_cons (psd_for (by exact passes_of rfl) rfl (pid_str (pd_var (pv 0))) (pgd_name (pg_name sc_node_in.nd rfl (by first | exact Or.inl rfl | exact Or.inr rfl))) (pssd_one (psd_set sc_node_in.nd rfl (by first | exact Or.inl rfl | exact Or.inr rfl) (pd_bin op_addA od_add (pd_bin op_mulA od_mul pd_int (pd_var (pv 1))) (pd_callTy call_int1 cd_int rfl T.n_int boot_int (pad_cons (pd_cmp (op_eqA (u64 hr)) od_eqA (pd_var (pv 2)) (pd_str (y := z_R) (by decide +kernel)) rfl) pad_nil))))))
  (pssd_one (psd_ret (pd_tup (pad_cons (pd_lenV call_len rfl T.n_len (pv 0)) (pad_cons (pd_var (pv 1)) pad_nil)))))))))
abbrev N_read_nodes : List Str := ["text", "found", "index", "word", "node"]
theorem sc_read_nodes : FnScope N_read_nodes ["text"] (defScope s_read_nodes) := ⟨rfl, rfl, rfl, by decide +kernel, rfl, by decide +kernel, by decide +kernel⟩
theorem ok_read_nodes (T : Txt K mg A) : FnG P w K mg base (L2.CX P w) 2 A.f_read_nodes A.d_read_nodes ["text"] (spD (ct K A) [] 1 m_read_nodes) :=
  fnD (io := []) T.F_read_nodes sc_read_nodes (by decide) (by decide) fun cdv Ar outer s H E => ioE fun F O _ _ _ _ hr hG => (pssd_cons (psd_if (ptd_not (ptd_val (pd_callB call_isi cd_isi rfl T.n_isinstance boot_isinstance (pad_cons (pd_var (pv 0)) (pad_cons (pd_tyb (k := 2) rfl T.n_str boot_str rfl) pad_nil))))) (pssd_one psd_stk) pssd_nil)
  (pssd_cons (psd_set sc_read_nodes.nd rfl (by first | exact Or.inl rfl | exact Or.inr rfl) (pd_lst pad_nil))
  (pssd_cons (psd_for (by exact passes_of rfl) rfl (pid_enum rfl T.n_enumerate (pd_if (ptd_cmp (op_eqA (u64 hr)) od_eqA (pd_var (pv 0)) (pd_str (y := z_) (by decide +kernel)) rfl) (pd_lst pad_nil) (pd_split (pd_var (pv 0)) (pd_str (y := z_h7215ee9c) (by decide +kernel))))) (pgd_tup rfl (pgds_cons (pgd_name (pg_name sc_read_nodes.nd rfl (by first | exact Or.inl rfl | exact Or.inr rfl))) (pgds_cons (pgd_name (pg_name sc_read_nodes.nd rfl (by first | exact Or.inl rfl | exact Or.inr rfl))) pgds_nil)) (gtCons_len (gtCons_len gtNil_len))) (pssd_cons (psd_set sc_read_nodes.nd rfl (by first | exact Or.inl rfl | exact Or.inr rfl) (pd_if (ptd_cmp op_lt od_cmp (pd_var (pv 2)) (pd_globI rfl T.c_MOST_NODES) rfl) (pd_call (ok_node_in T) (by exact takes_of rfl rfl rfl rfl) hG (hr.mono (by omega)) rfl T.m_node_in T.k_node_in T.b_node_in (pjd_val (pd_var (pv 3)) pjd_nil) (cn_val cn_nil)) pd_non))
  (pssd_cons (psd_if (ptd_cmp op_isN od_is (pd_var (pv 4)) pd_non rfl) (pssd_one psd_stk) pssd_nil)
  (pssd_one (psd_append (pd_var (pv 4)) (pv 1) (pe_bm PySem.F.plainAttrs_list PySem.F.slot_list_append PySem.F.type_list_append mt_append (pv 1) (pa_cons (pd_var (pv 4)) pa_nil)))))))
  (pssd_one (psd_ret (pd_move (pv 1)))))))
abbrev N__law_right : List Str := ["_law_bag_here", "_law_most", "_law_levels_here", "_law_kind_here", "_law_one", "_law_two", "_law_lists_here", "_law_texts", "_law_some", "_law_text", "_law_pair", "_law_above", "_law_due", "_law_both", "_law_words", "_law_told", "_law_turn", "_law_other", "_law_sign", "_law_word_here", "_law_node_here"]
theorem sc__law_right : FnScope N__law_right ["_law_bag_here", "_law_most"] (defScope s__law_right) := ⟨rfl, rfl, rfl, by decide +kernel, rfl, by decide +kernel, by decide +kernel⟩
theorem ok__law_right (T : Txt K mg A) : FnG P w K mg base (L2.CX P w) 8 A.f__law_right A.d__law_right ["_law_bag_here", "_law_most"] (spD (ct K A) [0] 2 m__law_right) :=
  fnD (io := [0]) T.F__law_right sc__law_right (by decide) (by decide) fun cdv Ar outer s H E => ioE fun F O _ _ _ _ hr hG => (pssd_cons (psd_parT (io := [0]) rfl rfl sc__law_right.nd rfl rfl (by decide) (by first | exact Or.inl rfl | exact Or.inr rfl) (by first | exact Or.inl rfl | exact Or.inr rfl) (pd_bin op_addA od_add pd_int (pd_call (ok__law_pick T) (by exact takes_of rfl rfl rfl rfl) hG (hr.mono (by omega)) rfl T.m__law_pick T.k__law_pick T.b__law_pick (pjd_io (pv 0) (pjd_val (pd_var (pv 1)) pjd_nil)) (cn_io (cn_val cn_nil)))) (ioE fun F O _ _ _ _ => (pd_ix (pd_call0 (ok__law_kinds T) hG (hr.mono (by omega)) rfl T.m__law_kinds T.k__law_kinds T.b__law_kinds) (pd_call (ok__law_pick T) (by exact takes_of rfl rfl rfl rfl) hG (hr.mono (by omega)) rfl T.m__law_pick T.k__law_pick T.b__law_pick (pjd_io (pv 0) (pjd_val pd_int pjd_nil)) (cn_io (cn_val cn_nil))))))
  (pssd_cons (psd_parT (io := [0]) rfl rfl sc__law_right.nd rfl rfl (by decide) (by first | exact Or.inl rfl | exact Or.inr rfl) (by first | exact Or.inl rfl | exact Or.inr rfl) (pd_call (ok__law_node T) (by exact takes_of rfl rfl rfl rfl) hG (hr.mono (by omega)) rfl T.m__law_node T.k__law_node T.b__law_node (pjd_io (pv 0) (pjd_val (pd_var (pv 2)) pjd_nil)) (cn_io (cn_val cn_nil))) (ioE fun F O _ _ _ _ => (pd_call (ok__law_node T) (by exact takes_of rfl rfl rfl rfl) hG (hr.mono (by omega)) rfl T.m__law_node T.k__law_node T.b__law_node (pjd_io (pv 0) (pjd_val (pd_var (pv 2)) pjd_nil)) (cn_io (cn_val cn_nil)))))
  (pssd_cons (psd_set sc__law_right.nd rfl (by first | exact Or.inl rfl | exact Or.inr rfl) (pd_lst (pad_cons (pd_call (ok__law_way T) (by exact takes_of rfl rfl rfl rfl) hG (hr.mono (by omega)) rfl T.m__law_way T.k__law_way T.b__law_way (pjd_val (pd_var (pv 4)) pjd_nil) (cn_val cn_nil)) (pad_cons (pd_call (ok__law_way T) (by exact takes_of rfl rfl rfl rfl) hG (hr.mono (by omega)) rfl T.m__law_way T.k__law_way T.b__law_way (pjd_val (pd_var (pv 5)) pjd_nil) (cn_val cn_nil)) (pad_cons (pd_lst (pad_cons (pd_var (pv 4)) (pad_cons (pd_var (pv 5)) pad_nil))) (pad_cons (pd_lst (pad_cons (pd_var (pv 5)) (pad_cons (pd_var (pv 4)) pad_nil))) (pad_cons (pd_lst pad_nil) (pad_cons (pd_lst (pad_cons (pd_var (pv 4)) pad_nil)) (pad_cons (pd_rev (pd_call (ok__law_way T) (by exact takes_of rfl rfl rfl rfl) hG (hr.mono (by omega)) rfl T.m__law_way T.k__law_way T.b__law_way (pjd_val (pd_var (pv 4)) pjd_nil) (cn_val cn_nil))) pad_nil)))))))))
  (pssd_cons (psd_append (pd_lc (io := [0]) (own := [("_law_turn", 16)]) rfl (by decide) (by dsimp only [List.map]; decide) rfl sc__law_right.nd (pid_rg1 rfl T.n_range (pad_cons pd_int pad_nil)) (by show BlkOk N__law_right (defScope s__law_right) _ _; exact ⟨rfl, by decide +kernel, by decide +kernel, by decide +kernel, by decide +kernel⟩) (fun s H Ca cl fp => ioE fun F O _ _ _ _ => (pgd_name (pg_name sc__law_right.nd rfl (by first | exact Or.inl rfl | exact Or.inr rfl)))) (fun s H Ca cl fp => ioE fun F O _ _ _ _ => ptsd_nil) (fun s H Ca cl fp => ioE fun F O _ _ _ _ => (pd_call (ok_node_at T) takes0 hG (hr.mono (by omega)) rfl T.m_node_at T.k_node_at T.b_node_at (pjd_val (pd_var (pv 3)) (pjd_val (pd_var (pv 2)) (pjd_val (pd_call (ok__law_pick T) takes0 hG (hr.mono (by omega)) rfl T.m__law_pick T.k__law_pick T.b__law_pick (pjd_io (pv 0) (pjd_val (pd_bin op_sub od_sub (pd_bin op_shlW od_shl pd_int (pd_var (pv 2))) pd_int) pjd_nil)) (cn_io (cn_val cn_nil))) pjd_nil))) (cn_val (cn_val (cn_val cn_nil)))))) (pv 6) (pe_bm PySem.F.plainAttrs_list PySem.F.slot_list_append PySem.F.type_list_append mt_append (pv 6) (pa_cons (pd_lc (io := [0]) (own := [("_law_turn", 16)]) rfl (by decide) (by dsimp only [List.map]; decide) rfl sc__law_right.nd (pid_rg1 rfl T.n_range (pad_cons pd_int pad_nil)) (by show BlkOk N__law_right (defScope s__law_right) _ _; exact ⟨rfl, by decide +kernel, by decide +kernel, by decide +kernel, by decide +kernel⟩) (fun s H Ca cl fp => ioE fun F O _ _ _ _ => (pgd_name (pg_name sc__law_right.nd rfl (by first | exact Or.inl rfl | exact Or.inr rfl)))) (fun s H Ca cl fp => ioE fun F O _ _ _ _ => ptsd_nil) (fun s H Ca cl fp => ioE fun F O _ _ _ _ => (pd_call (ok_node_at T) takes0 hG (hr.mono (by omega)) rfl T.m_node_at T.k_node_at T.b_node_at (pjd_val (pd_var (pv 3)) (pjd_val (pd_var (pv 2)) (pjd_val (pd_call (ok__law_pick T) takes0 hG (hr.mono (by omega)) rfl T.m__law_pick T.k__law_pick T.b__law_pick (pjd_io (pv 0) (pjd_val (pd_bin op_sub od_sub (pd_bin op_shlW od_shl pd_int (pd_var (pv 2))) pd_int) pjd_nil)) (cn_io (cn_val cn_nil))) pjd_nil))) (cn_val (cn_val (cn_val cn_nil)))))) pa_nil)))
  (pssd_cons (psd_setLc (io := [0]) (own := [("_law_some", 8)]) rfl (by decide) (by dsimp only [List.map]; decide) rfl sc__law_right.nd rfl rfl rfl (pid_seq (pd_var (pv 6))) (by show BlkOk N__law_right (defScope s__law_right) _ _; exact ⟨rfl, by decide +kernel, by decide +kernel, by decide +kernel, by decide +kernel⟩) (fun s H Ca cl fp => ioE fun F O _ _ _ _ => (pgd_name (pg_name sc__law_right.nd rfl (by first | exact Or.inl rfl | exact Or.inr rfl)))) (fun s H Ca cl fp => ioE fun F O _ _ _ _ => ptsd_nil) (fun s H Ca cl fp => ioE fun F O _ _ _ _ => (pd_call (ok_show_nodes T) takes0 hG (hr.mono (by omega)) rfl T.m_show_nodes T.k_show_nodes T.b_show_nodes (pjd_val (pd_var (pv 8)) pjd_nil) (cn_val cn_nil))))
  (pssd_cons (psd_for (by exact passes_of rfl) rfl (pid_zip rfl T.n_zip (pd_var (pv 6)) (pd_var (pv 7))) (pgd_tup rfl (pgds_cons (pgd_name (pg_name sc__law_right.nd rfl (by first | exact Or.inl rfl | exact Or.inr rfl))) (pgds_cons (pgd_name (pg_name sc__law_right.nd rfl (by first | exact Or.inl rfl | exact Or.inr rfl))) pgds_nil)) (gtCons_len (gtCons_len gtNil_len))) (pssd_cons (psd_if (PW.pt (pwd_or (ptd_cmp (op_neA (u64 hr)) od_neA (pd_call (ok_read_nodes T) (by exact takes_of rfl rfl rfl rfl) hG (hr.mono (by omega)) rfl T.m_read_nodes T.k_read_nodes T.b_read_nodes (pjd_val (pd_var (pv 9)) pjd_nil) (cn_val cn_nil)) (pd_var (pv 8)) rfl) (pwd_or1 (ptd_cmp (op_neA (u64 hr)) od_neA (pd_call (ok_show_nodes T) (by exact takes_of rfl rfl rfl rfl) hG (hr.mono (by omega)) rfl T.m_show_nodes T.k_show_nodes T.b_show_nodes (pjd_val (pd_call (ok_read_nodes T) (by exact takes_of rfl rfl rfl rfl) hG (hr.mono (by omega)) rfl T.m_read_nodes T.k_read_nodes T.b_read_nodes (pjd_val (pd_var (pv 9)) pjd_nil) (cn_val cn_nil)) pjd_nil) (cn_val cn_nil)) (pd_var (pv 9)) rfl)))) (pssd_one (psd_ret pd_bl)) pssd_nil)
  (pssd_one (psd_if (ptd_cmp (op_neA (u64 hr)) od_neA (pd_lc (io := [0]) (own := [("_law_other", 17)]) rfl (by decide) (by dsimp only [List.map]; decide) rfl sc__law_right.nd (pid_seq (pd_var (pv 7))) (by show BlkOk N__law_right (defScope s__law_right) _ _; exact ⟨rfl, by decide +kernel, by decide +kernel, by decide +kernel, by decide +kernel⟩) (fun s H Ca cl fp => ioE fun F O _ _ _ _ => (pgd_name (pg_name sc__law_right.nd rfl (by first | exact Or.inl rfl | exact Or.inr rfl)))) (fun s H Ca cl fp => ioE fun F O _ _ _ _ => ptsd_nil) (fun s H Ca cl fp => ioE fun F O _ _ _ _ => (pd_cmp (op_eqA (u64 hr)) od_eqA (pd_var (pv 9)) (pd_var (pv 17)) rfl))) (pd_lc (io := [0]) (own := [("_law_other", 17)]) rfl (by decide) (by dsimp only [List.map]; decide) rfl sc__law_right.nd (pid_seq (pd_var (pv 6))) (by show BlkOk N__law_right (defScope s__law_right) _ _; exact ⟨rfl, by decide +kernel, by decide +kernel, by decide +kernel, by decide +kernel⟩) (fun s H Ca cl fp => ioE fun F O _ _ _ _ => (pgd_name (pg_name sc__law_right.nd rfl (by first | exact Or.inl rfl | exact Or.inr rfl)))) (fun s H Ca cl fp => ioE fun F O _ _ _ _ => ptsd_nil) (fun s H Ca cl fp => ioE fun F O _ _ _ _ => (pd_cmp (op_eqA (u64 hr)) od_eqA (pd_var (pv 8)) (pd_var (pv 17)) rfl))) rfl) (pssd_one (psd_ret pd_bl)) pssd_nil))))
  (pssd_cons (psd_par (io := [0]) rfl rfl sc__law_right.nd rfl rfl (by decide) rfl rfl (pd_call (ok_children T) (by exact takes_of rfl rfl rfl rfl) hG (hr.mono (by omega)) rfl T.m_children T.k_children T.b_children (pjd_val (pd_var (pv 2)) (pjd_val (pd_var (pv 4)) pjd_nil)) (cn_val (cn_val cn_nil))) (ioE fun F O _ _ _ _ => (pd_call (ok_parent T) (by exact takes_of rfl rfl rfl rfl) hG (hr.mono (by omega)) rfl T.m_parent T.k_parent T.b_parent (pjd_val (pd_var (pv 2)) (pjd_val (pd_var (pv 4)) pjd_nil)) (cn_val (cn_val cn_nil)))) rfl)
  (pssd_cons (psd_setLc (io := [0]) (own := [("_law_sign", 18)]) rfl (by decide) (by dsimp only [List.map]; decide) rfl sc__law_right.nd rfl rfl rfl (pid_str (pd_str (y := z_LR) (by decide +kernel))) (by show BlkOk N__law_right (defScope s__law_right) _ _; exact ⟨rfl, by decide +kernel, by decide +kernel, by decide +kernel, by decide +kernel⟩) (fun s H Ca cl fp => ioE fun F O _ _ _ _ => (pgd_name (pg_name sc__law_right.nd rfl (by first | exact Or.inl rfl | exact Or.inr rfl)))) (fun s H Ca cl fp => ioE fun F O _ _ _ _ => ptsd_nil) (fun s H Ca cl fp => ioE fun F O _ _ _ _ => (pd_bin op_addA od_add (pd_call (ok__law_begin T) takes0 hG (hr.mono (by omega)) rfl T.m__law_begin T.k__law_begin T.b__law_begin (pjd_val (pd_call (ok_show_node T) takes0 hG (hr.mono (by omega)) rfl T.m_show_node T.k_show_node T.b_show_node (pjd_val (pd_var (pv 4)) pjd_nil) (cn_val cn_nil)) pjd_nil) (cn_val cn_nil)) (pd_var (pv 18)))))
  (pssd_cons (psd_if (PW.pt (pwd_and (ptd_cmp op_notN od_isN (pd_var (pv 10)) pd_non rfl) (pwd_and1 (ptd_cmp (op_neA (u64 hr)) od_neA (pd_lc (io := [0]) (own := [("_law_some", 8)]) rfl (by decide) (by dsimp only [List.map]; decide) rfl sc__law_right.nd (pid_seq (pd_var (pv 10))) (by show BlkOk N__law_right (defScope s__law_right) _ _; exact ⟨rfl, by decide +kernel, by decide +kernel, by decide +kernel, by decide +kernel⟩) (fun s H Ca cl fp => ioE fun F O _ _ _ _ => (pgd_name (pg_name sc__law_right.nd rfl (by first | exact Or.inl rfl | exact Or.inr rfl)))) (fun s H Ca cl fp => ioE fun F O _ _ _ _ => ptsd_nil) (fun s H Ca cl fp => ioE fun F O _ _ _ _ => (pd_call (ok_show_node T) takes0 hG (hr.mono (by omega)) rfl T.m_show_node T.k_show_node T.b_show_node (pjd_val (pd_var (pv 8)) pjd_nil) (cn_val cn_nil)))) (pd_var (pv 12)) rfl)))) (pssd_one (psd_ret pd_bl)) pssd_nil)
  (pssd_cons (psd_if (PW.pt (pwd_and (ptd_cmp op_notN od_isN (pd_var (pv 11)) pd_non rfl) (pwd_and1 (ptd_cmp (op_neA (u64 hr)) od_neA (pd_call (ok__law_begin T) (by exact takes_of rfl rfl rfl rfl) hG (hr.mono (by omega)) rfl T.m__law_begin T.k__law_begin T.b__law_begin (pjd_val (pd_call (ok_show_node T) (by exact takes_of rfl rfl rfl rfl) hG (hr.mono (by omega)) rfl T.m_show_node T.k_show_node T.b_show_node (pjd_val (pd_var (pv 11)) pjd_nil) (cn_val cn_nil)) pjd_nil) (cn_val cn_nil)) (pd_slice (pd_call (ok_show_node T) (by exact takes_of rfl rfl rfl rfl) hG (hr.mono (by omega)) rfl T.m_show_node T.k_show_node T.b_show_node (pjd_val (pd_var (pv 4)) pjd_nil) (cn_val cn_nil)) pod_none (pod_some (pd_neg pd_int))) rfl)))) (pssd_one (psd_ret pd_bl)) pssd_nil)
  (pssd_cons (psd_set sc__law_right.nd rfl (by first | exact Or.inl rfl | exact Or.inr rfl) (pd_call (ok__law_begin T) (by exact takes_of rfl rfl rfl rfl) hG (hr.mono (by omega)) rfl T.m__law_begin T.k__law_begin T.b__law_begin (pjd_val (pd_call (ok_show_node T) (by exact takes_of rfl rfl rfl rfl) hG (hr.mono (by omega)) rfl T.m_show_node T.k_show_node T.b_show_node (pjd_val (pd_call (ok_meet T) (by exact takes_of rfl rfl rfl rfl) hG (hr.mono (by omega)) rfl T.m_meet T.k_meet T.b_meet (pjd_val (pd_var (pv 2)) (pjd_val (pd_var (pv 4)) (pjd_val (pd_var (pv 5)) pjd_nil))) (cn_val (cn_val (cn_val cn_nil)))) pjd_nil) (cn_val cn_nil)) pjd_nil) (cn_val cn_nil)))
  (pssd_cons (psd_set sc__law_right.nd rfl (by first | exact Or.inl rfl | exact Or.inr rfl) (pd_lst (pad_cons (pd_call (ok__law_begin T) (by exact takes_of rfl rfl rfl rfl) hG (hr.mono (by omega)) rfl T.m__law_begin T.k__law_begin T.b__law_begin (pjd_val (pd_call (ok_show_node T) (by exact takes_of rfl rfl rfl rfl) hG (hr.mono (by omega)) rfl T.m_show_node T.k_show_node T.b_show_node (pjd_val (pd_var (pv 4)) pjd_nil) (cn_val cn_nil)) pjd_nil) (cn_val cn_nil)) (pad_cons (pd_call (ok__law_begin T) (by exact takes_of rfl rfl rfl rfl) hG (hr.mono (by omega)) rfl T.m__law_begin T.k__law_begin T.b__law_begin (pjd_val (pd_call (ok_show_node T) (by exact takes_of rfl rfl rfl rfl) hG (hr.mono (by omega)) rfl T.m_show_node T.k_show_node T.b_show_node (pjd_val (pd_var (pv 5)) pjd_nil) (cn_val cn_nil)) pjd_nil) (cn_val cn_nil)) pad_nil))))
  (pssd_cons (psd_if (ptd_cmp (op_neA (u64 hr)) od_neA (pd_lc (io := [0]) (own := [("_law_word_here", 19)]) rfl (by decide) (by dsimp only [List.map]; decide) rfl sc__law_right.nd (pid_seq (pd_var (pv 14))) (by show BlkOk N__law_right (defScope s__law_right) _ _; exact ⟨rfl, by decide +kernel, by decide +kernel, by decide +kernel, by decide +kernel⟩) (fun s H Ca cl fp => ioE fun F O _ _ _ _ => (pgd_name (pg_name sc__law_right.nd rfl (by first | exact Or.inl rfl | exact Or.inr rfl)))) (fun s H Ca cl fp => ioE fun F O _ _ _ _ => ptsd_nil) (fun s H Ca cl fp => ioE fun F O _ _ _ _ => (pd_slice (pd_var (pv 19)) pod_none (pod_some (pd_lenV call_len rfl T.n_len (pv 13)))))) (pd_bin op_mulA od_mul (pd_lst (pad_cons (pd_var (pv 13)) pad_nil)) pd_int) rfl) (pssd_one (psd_ret pd_bl)) pssd_nil)
  (pssd_cons (psd_if (PW.pt (pwd_and (ptd_cmp op_gt od_cmp (pd_callB (call_min2 rfl) cd_min2 rfl T.n_min boot_min (pad_cons (pd_callB call_len cd_len rfl T.n_len boot_len (pad_cons (pd_ixV (pv 14) pd_int) pad_nil)) (pad_cons (pd_callB call_len cd_len rfl T.n_len boot_len (pad_cons (pd_ixV (pv 14) pd_int) pad_nil)) pad_nil))) (pd_lenV call_len rfl T.n_len (pv 13)) rfl) (pwd_and1 (ptd_cmp (op_eqA (u64 hr)) od_eqA (pd_ix (pd_ixV (pv 14) pd_int) (pd_lenV call_len rfl T.n_len (pv 13))) (pd_ix (pd_ixV (pv 14) pd_int) (pd_lenV call_len rfl T.n_len (pv 13))) rfl)))) (pssd_one (psd_ret pd_bl)) pssd_nil)
  (pssd_cons (psd_setLc (io := [0]) (own := [("_law_node_here", 20)]) rfl (by decide) (by dsimp only [List.map]; decide) rfl sc__law_right.nd rfl rfl rfl (pid_seq (pd_call (ok_read_nodes T) (by exact takes_of rfl rfl rfl rfl) hG (hr.mono (by omega)) rfl T.m_read_nodes T.k_read_nodes T.b_read_nodes (pjd_val (pd_ixV (pv 7) pd_int) pjd_nil) (cn_val cn_nil))) (by show BlkOk N__law_right (defScope s__law_right) _ _; exact ⟨rfl, by decide +kernel, by decide +kernel, by decide +kernel, by decide +kernel⟩) (fun s H Ca cl fp => ioE fun F O _ _ _ _ => (pgd_name (pg_name sc__law_right.nd rfl (by first | exact Or.inl rfl | exact Or.inr rfl)))) (fun s H Ca cl fp => ioE fun F O _ _ _ _ => ptsd_nil) (fun s H Ca cl fp => ioE fun F O _ _ _ _ => (pd_call (ok_place_of T) takes0 hG (hr.mono (by omega)) rfl T.m_place_of T.k_place_of T.b_place_of (pjd_val (pd_var (pv 3)) (pjd_val (pd_var (pv 2)) (pjd_val (pd_var (pv 20)) pjd_nil))) (cn_val (cn_val (cn_val cn_nil))))))
  (pssd_one (psd_ret (pd_cmp (op_eqA (u64 hr)) od_eqA (pd_var (pv 15)) (pd_lc (io := [0]) (own := [("_law_node_here", 20)]) rfl (by decide) (by dsimp only [List.map]; decide) rfl sc__law_right.nd (pid_seq (pd_tup (pad_cons (pd_var (pv 4)) (pad_cons (pd_var (pv 5)) pad_nil)))) (by show BlkOk N__law_right (defScope s__law_right) _ _; exact ⟨rfl, by decide +kernel, by decide +kernel, by decide +kernel, by decide +kernel⟩) (fun s H Ca cl fp => ioE fun F O _ _ _ _ => (pgd_name (pg_name sc__law_right.nd rfl (by first | exact Or.inl rfl | exact Or.inr rfl)))) (fun s H Ca cl fp => ioE fun F O _ _ _ _ => ptsd_nil) (fun s H Ca cl fp => ioE fun F O _ _ _ _ => (pd_call (ok_place_of T) takes0 hG (hr.mono (by omega)) rfl T.m_place_of T.k_place_of T.b_place_of (pjd_val (pd_var (pv 3)) (pjd_val (pd_var (pv 2)) (pjd_val (pd_var (pv 20)) pjd_nil))) (cn_val (cn_val (cn_val cn_nil)))))) rfl))))))))))))))))))
abbrev N_law : List Str := ["_law_script", "_law_cell", "_law_bag_here", "_law_most"]
theorem sc_law : FnScope N_law ["_law_script"] (defScope s_law) := ⟨rfl, rfl, rfl, by decide +kernel, rfl, by decide +kernel, by decide +kernel⟩
theorem ok_law (T : Txt K mg A) : FnG P w K mg base (L2.CX P w) 9 A.f_law A.d_law ["_law_script"] (spD (ct K A) [] 1 m_law) :=
  fnD (io := []) T.F_law sc_law (by decide) (by decide) fun cdv Ar outer s H E => ioE fun F O _ _ _ _ hr hG => (pssd_cons (psd_for (by exact passes_of rfl) rfl (pid_seq (pd_bin op_addA od_add (pd_slice (pd_var (pv 0)) pod_none (pod_some pd_int)) (pd_lst (pad_cons pd_int pad_nil)))) (pgd_name (pg_name sc_law.nd rfl (by first | exact Or.inl rfl | exact Or.inr rfl))) (pssd_cons (psd_set sc_law.nd rfl (by first | exact Or.inl rfl | exact Or.inr rfl) (pd_call (ok__law_bag T) (by exact takes_of rfl rfl rfl rfl) hG (hr.mono (by omega)) rfl T.m__law_bag T.k__law_bag T.b__law_bag (pjd_val (pd_var (pv 1)) pjd_nil) (cn_val cn_nil)))
  (pssd_one (psd_for (by exact passes_of rfl) rfl (pid_seq (pd_tup (pad_cons pd_int (pad_cons pd_int (pad_cons pd_int pad_nil))))) (pgd_name (pg_name sc_law.nd rfl (by first | exact Or.inl rfl | exact Or.inr rfl))) (pssd_one (psd_if (ptd_not (ptd_val (pd_call (ok__law_right T) (by exact takes_of rfl rfl rfl rfl) hG (hr.mono (by omega)) rfl T.m__law_right T.k__law_right T.b__law_right (pjd_io (pv 2) (pjd_val (pd_var (pv 3)) pjd_nil)) (cn_io (cn_val cn_nil))))) (pssd_one (psd_ret pd_bl)) pssd_nil))))))
  (pssd_one (psd_ret pd_bl)))
end
theorem all_mk {l : PySem.W.OpenLaw} {w : World} {K : PySem.W.Frag} {h : Heap} {mg : Str → Option Value} {fa : Addr} (X : K.In h) (G : h.Ns mainGlobals mg) (hfa : mg "law" = some (.ref fa))
    {f0 : Addr} {od0 an0 : Option Addr} {sl0 : Array (Option Value)} {oc0 kV0 dc0 pm0 cd0 ct0 : Value} {f1 : Addr} {od1 an1 : Option Addr} {sl1 : Array (Option Value)} {oc1 kV1 dc1 pm1 cd1 ct1 : Value} {f2 : Addr} {od2 an2 : Option Addr} {sl2 : Array (Option Value)} {oc2 kV2 dc2 pm2 cd2 ct2 : Value} {f3 : Addr} {od3 an3 : Option Addr} {sl3 : Array (Option Value)} {oc3 kV3 dc3 pm3 cd3 ct3 : Value} {f4 : Addr} {od4 an4 : Option Addr} {sl4 : Array (Option Value)} {oc4 kV4 dc4 pm4 cd4 ct4 : Value} {f5 : Addr} {od5 an5 : Option Addr} {sl5 : Array (Option Value)} {oc5 kV5 dc5 pm5 cd5 ct5 : Value} {f6 : Addr} {od6 an6 : Option Addr} {sl6 : Array (Option Value)} {oc6 kV6 dc6 pm6 cd6 ct6 : Value} {f7 : Addr} {od7 an7 : Option Addr} {sl7 : Array (Option Value)} {oc7 kV7 dc7 pm7 cd7 ct7 : Value} {f8 : Addr} {od8 an8 : Option Addr} {sl8 : Array (Option Value)} {oc8 kV8 dc8 pm8 cd8 ct8 : Value} {f9 : Addr} {od9 an9 : Option Addr} {sl9 : Array (Option Value)} {oc9 kV9 dc9 pm9 cd9 ct9 : Value} {f10 : Addr} {od10 an10 : Option Addr} {sl10 : Array (Option Value)} {oc10 kV10 dc10 pm10 cd10 ct10 : Value} {f11 : Addr} {od11 an11 : Option Addr} {sl11 : Array (Option Value)} {oc11 kV11 dc11 pm11 cd11 ct11 : Value} {f12 : Addr} {od12 an12 : Option Addr} {sl12 : Array (Option Value)} {oc12 kV12 dc12 pm12 cd12 ct12 : Value} {f13 : Addr} {od13 an13 : Option Addr} {sl13 : Array (Option Value)} {oc13 kV13 dc13 pm13 cd13 ct13 : Value} {f14 : Addr} {od14 an14 : Option Addr} {sl14 : Array (Option Value)} {oc14 kV14 dc14 pm14 cd14 ct14 : Value} {f15 : Addr} {od15 an15 : Option Addr} {sl15 : Array (Option Value)} {oc15 kV15 dc15 pm15 cd15 ct15 : Value} {f16 : Addr} {od16 an16 : Option Addr} {sl16 : Array (Option Value)} {oc16 kV16 dc16 pm16 cd16 ct16 : Value} {f17 : Addr} {od17 an17 : Option Addr} {sl17 : Array (Option Value)} {oc17 kV17 dc17 pm17 cd17 ct17 : Value} {f18 : Addr} {od18 an18 : Option Addr} {sl18 : Array (Option Value)} {oc18 kV18 dc18 pm18 cd18 ct18 : Value} {f19 : Addr} {od19 an19 : Option Addr} {sl19 : Array (Option Value)} {oc19 kV19 dc19 pm19 cd19 ct19 : Value} {f20 : Addr} {od20 an20 : Option Addr} {sl20 : Array (Option Value)} {oc20 kV20 dc20 pm20 cd20 ct20 : Value} {f21 : Addr} {od21 an21 : Option Addr} {sl21 : Array (Option Value)} {oc21 kV21 dc21 pm21 cd21 ct21 : Value} {f22 : Addr} {od22 an22 : Option Addr} {sl22 : Array (Option Value)} {oc22 kV22 dc22 pm22 cd22 ct22 : Value} {f23 : Addr} {od23 an23 : Option Addr} {sl23 : Array (Option Value)} {oc23 kV23 dc23 pm23 cd23 ct23 : Value} {f24 : Addr} {od24 an24 : Option Addr} {sl24 : Array (Option Value)} {oc24 kV24 dc24 pm24 cd24 ct24 : Value} {f25 : Addr} {od25 an25 : Option Addr} {sl25 : Array (Option Value)} {oc25 kV25 dc25 pm25 cd25 ct25 : Value} {f26 : Addr} {od26 an26 : Option Addr} {sl26 : Array (Option Value)} {oc26 kV26 dc26 pm26 cd26 ct26 : Value} {f27 : Addr} {od27 an27 : Option Addr} {sl27 : Array (Option Value)} {oc27 kV27 dc27 pm27 cd27 ct27 : Value} {f28 : Addr} {od28 an28 : Option Addr} {sl28 : Array (Option Value)} {oc28 kV28 dc28 pm28 cd28 ct28 : Value} {f29 : Addr} {od29 an29 : Option Addr} {sl29 : Array (Option Value)} {oc29 kV29 dc29 pm29 cd29 ct29 : Value} {f30 : Addr} {od30 an30 : Option Addr} {sl30 : Array (Option Value)} {oc30 kV30 dc30 pm30 cd30 ct30 : Value} {f31 : Addr} {od31 an31 : Option Addr} {sl31 : Array (Option Value)} {oc31 kV31 dc31 pm31 cd31 ct31 : Value} {f32 : Addr} {od32 an32 : Option Addr} {sl32 : Array (Option Value)} {oc32 kV32 dc32 pm32 cd32 ct32 : Value} {f33 : Addr} {od33 an33 : Option Addr} {sl33 : Array (Option Value)} {oc33 kV33 dc33 pm33 cd33 ct33 : Value} {f34 : Addr} {od34 an34 : Option Addr} {sl34 : Array (Option Value)} {oc34 kV34 dc34 pm34 cd34 ct34 : Value} {tk_MOST_HEIGHT : Tok} {tk_MOST_NODES : Tok} {ad_CUT_KINDS : Addr} {sd_CUT_KINDS : Option Addr} {sn_CUT_KINDS : Nat} {ss_CUT_KINDS : Array (Option Value)} {st_CUT_KINDS_0 : Tok} {st_CUT_KINDS_1 : Tok} {st_CUT_KINDS_2 : Tok} {ad_KINDS : Addr} {sd_KINDS : Option Addr} {sn_KINDS : Nat} {ss_KINDS : Array (Option Value)} {st_KINDS_0 : Tok} {st_KINDS_1 : Tok} {st_KINDS_2 : Tok} {st_KINDS_3 : Tok} {st_KINDS_4 : Tok} {st_KINDS_5 : Tok} {st_KINDS_6 : Tok} {C_InvalidKind : Addr} {C_InvalidHeight : Addr} {C_InvalidNode : Addr} {C_InvalidPlace : Addr}
    (a0 : PySem.W.nsIn K mainGlobals "_law_bag" = some (some (.ref f0)))
    (l0 : K.lookup f0 = some ⟨oc0, od0, .func (PySem.W.fnOf "_law_bag" "_law_bag" (defArgs s__law_bag) (defBody s__law_bag) (defScope s__law_bag) .none kV0 dc0 pm0 an0 cd0 ct0), sl0⟩)
    (c0 : PySem.W.codeIn K cd0 "_law_bag" = true)
    (k0 : PySem.W.keepIn K (.ref f0) = true)
    (a1 : PySem.W.nsIn K mainGlobals "_law_begin" = some (some (.ref f1)))
    (l1 : K.lookup f1 = some ⟨oc1, od1, .func (PySem.W.fnOf "_law_begin" "_law_begin" (defArgs s__law_begin) (defBody s__law_begin) (defScope s__law_begin) .none kV1 dc1 pm1 an1 cd1 ct1), sl1⟩)
    (c1 : PySem.W.codeIn K cd1 "_law_begin" = true)
    (k1 : PySem.W.keepIn K (.ref f1) = true)
    (a2 : PySem.W.nsIn K mainGlobals "_law_pick" = some (some (.ref f2)))
    (l2 : K.lookup f2 = some ⟨oc2, od2, .func (PySem.W.fnOf "_law_pick" "_law_pick" (defArgs s__law_pick) (defBody s__law_pick) (defScope s__law_pick) .none kV2 dc2 pm2 an2 cd2 ct2), sl2⟩)
    (c2 : PySem.W.codeIn K cd2 "_law_pick" = true)
    (k2 : PySem.W.keepIn K (.ref f2) = true)
    (a3 : PySem.W.nsIn K mainGlobals "_law_node" = some (some (.ref f3)))
    (l3 : K.lookup f3 = some ⟨oc3, od3, .func (PySem.W.fnOf "_law_node" "_law_node" (defArgs s__law_node) (defBody s__law_node) (defScope s__law_node) .none kV3 dc3 pm3 an3 cd3 ct3), sl3⟩)
    (c3 : PySem.W.codeIn K cd3 "_law_node" = true)
    (k3 : PySem.W.keepIn K (.ref f3) = true)
    (a4 : PySem.W.nsIn K mainGlobals "_law_way" = some (some (.ref f4)))
    (l4 : K.lookup f4 = some ⟨oc4, od4, .func (PySem.W.fnOf "_law_way" "_law_way" (defArgs s__law_way) (defBody s__law_way) (defScope s__law_way) .none kV4 dc4 pm4 an4 cd4 ct4), sl4⟩)
    (c4 : PySem.W.codeIn K cd4 "_law_way" = true)
    (k4 : PySem.W.keepIn K (.ref f4) = true)
    (a5 : PySem.W.nsIn K mainGlobals "is_int" = some (some (.ref f5)))
    (l5 : K.lookup f5 = some ⟨oc5, od5, .func (PySem.W.fnOf "is_int" "is_int" (defArgs s_is_int) (defBody s_is_int) (defScope s_is_int) .none kV5 dc5 pm5 an5 cd5 ct5), sl5⟩)
    (c5 : PySem.W.codeIn K cd5 "is_int" = true)
    (k5 : PySem.W.keepIn K (.ref f5) = true)
    (a6 : PySem.W.nsIn K mainGlobals "is_whole" = some (some (.ref f6)))
    (l6 : K.lookup f6 = some ⟨oc6, od6, .func (PySem.W.fnOf "is_whole" "is_whole" (defArgs s_is_whole) (defBody s_is_whole) (defScope s_is_whole) .none kV6 dc6 pm6 an6 cd6 ct6), sl6⟩)
    (c6 : PySem.W.codeIn K cd6 "is_whole" = true)
    (k6 : PySem.W.keepIn K (.ref f6) = true)
    (a7 : PySem.W.nsIn K mainGlobals "is_node" = some (some (.ref f7)))
    (l7 : K.lookup f7 = some ⟨oc7, od7, .func (PySem.W.fnOf "is_node" "is_node" (defArgs s_is_node) (defBody s_is_node) (defScope s_is_node) .none kV7 dc7 pm7 an7 cd7 ct7), sl7⟩)
    (c7 : PySem.W.codeIn K cd7 "is_node" = true)
    (k7 : PySem.W.keepIn K (.ref f7) = true)
    (a8 : PySem.W.nsIn K mainGlobals "node_text" = some (some (.ref f8)))
    (l8 : K.lookup f8 = some ⟨oc8, od8, .func (PySem.W.fnOf "node_text" "node_text" (defArgs s_node_text) (defBody s_node_text) (defScope s_node_text) .none kV8 dc8 pm8 an8 cd8 ct8), sl8⟩)
    (c8 : PySem.W.codeIn K cd8 "node_text" = true)
    (k8 : PySem.W.keepIn K (.ref f8) = true)
    (a9 : PySem.W.nsIn K mainGlobals "show_nodes" = some (some (.ref f9)))
    (l9 : K.lookup f9 = some ⟨oc9, od9, .func (PySem.W.fnOf "show_nodes" "show_nodes" (defArgs s_show_nodes) (defBody s_show_nodes) (defScope s_show_nodes) .none kV9 dc9 pm9 an9 cd9 ct9), sl9⟩)
    (c9 : PySem.W.codeIn K cd9 "show_nodes" = true)
    (k9 : PySem.W.keepIn K (.ref f9) = true)
    (a10 : PySem.W.nsIn K mainGlobals "require_height" = some (some (.ref f10)))
    (l10 : K.lookup f10 = some ⟨oc10, od10, .func (PySem.W.fnOf "require_height" "require_height" (defArgs s_require_height) (defBody s_require_height) (defScope s_require_height) .none kV10 dc10 pm10 an10 cd10 ct10), sl10⟩)
    (c10 : PySem.W.codeIn K cd10 "require_height" = true)
    (k10 : PySem.W.keepIn K (.ref f10) = true)
    (a11 : PySem.W.nsIn K mainGlobals "require_node" = some (some (.ref f11)))
    (l11 : K.lookup f11 = some ⟨oc11, od11, .func (PySem.W.fnOf "require_node" "require_node" (defArgs s_require_node) (defBody s_require_node) (defScope s_require_node) .none kV11 dc11 pm11 an11 cd11 ct11), sl11⟩)
    (c11 : PySem.W.codeIn K cd11 "require_node" = true)
    (k11 : PySem.W.keepIn K (.ref f11) = true)
    (a12 : PySem.W.nsIn K mainGlobals "require_kin" = some (some (.ref f12)))
    (l12 : K.lookup f12 = some ⟨oc12, od12, .func (PySem.W.fnOf "require_kin" "require_kin" (defArgs s_require_kin) (defBody s_require_kin) (defScope s_require_kin) .none kV12 dc12 pm12 an12 cd12 ct12), sl12⟩)
    (c12 : PySem.W.codeIn K cd12 "require_kin" = true)
    (k12 : PySem.W.keepIn K (.ref f12) = true)
    (a13 : PySem.W.nsIn K mainGlobals "children" = some (some (.ref f13)))
    (l13 : K.lookup f13 = some ⟨oc13, od13, .func (PySem.W.fnOf "children" "children" (defArgs s_children) (defBody s_children) (defScope s_children) .none kV13 dc13 pm13 an13 cd13 ct13), sl13⟩)
    (c13 : PySem.W.codeIn K cd13 "children" = true)
    (k13 : PySem.W.keepIn K (.ref f13) = true)
    (a14 : PySem.W.nsIn K mainGlobals "parent_of" = some (some (.ref f14)))
    (l14 : K.lookup f14 = some ⟨oc14, od14, .func (PySem.W.fnOf "parent_of" "parent_of" (defArgs s_parent_of) (defBody s_parent_of) (defScope s_parent_of) .none kV14 dc14 pm14 an14 cd14 ct14), sl14⟩)
    (c14 : PySem.W.codeIn K cd14 "parent_of" = true)
    (k14 : PySem.W.keepIn K (.ref f14) = true)
    (a15 : PySem.W.nsIn K mainGlobals "parent" = some (some (.ref f15)))
    (l15 : K.lookup f15 = some ⟨oc15, od15, .func (PySem.W.fnOf "parent" "parent" (defArgs s_parent) (defBody s_parent) (defScope s_parent) .none kV15 dc15 pm15 an15 cd15 ct15), sl15⟩)
    (c15 : PySem.W.codeIn K cd15 "parent" = true)
    (k15 : PySem.W.keepIn K (.ref f15) = true)
    (a16 : PySem.W.nsIn K mainGlobals "show_node" = some (some (.ref f16)))
    (l16 : K.lookup f16 = some ⟨oc16, od16, .func (PySem.W.fnOf "show_node" "show_node" (defArgs s_show_node) (defBody s_show_node) (defScope s_show_node) .none kV16 dc16 pm16 an16 cd16 ct16), sl16⟩)
    (c16 : PySem.W.codeIn K cd16 "show_node" = true)
    (k16 : PySem.W.keepIn K (.ref f16) = true)
    (a17 : PySem.W.nsIn K mainGlobals "require_kind" = some (some (.ref f17)))
    (l17 : K.lookup f17 = some ⟨oc17, od17, .func (PySem.W.fnOf "require_kind" "require_kind" (defArgs s_require_kind) (defBody s_require_kind) (defScope s_require_kind) .none kV17 dc17 pm17 an17 cd17 ct17), sl17⟩)
    (c17 : PySem.W.codeIn K cd17 "require_kind" = true)
    (k17 : PySem.W.keepIn K (.ref f17) = true)
    (a18 : PySem.W.nsIn K mainGlobals "require_tree" = some (some (.ref f18)))
    (l18 : K.lookup f18 = some ⟨oc18, od18, .func (PySem.W.fnOf "require_tree" "require_tree" (defArgs s_require_tree) (defBody s_require_tree) (defScope s_require_tree) .none kV18 dc18 pm18 an18 cd18 ct18), sl18⟩)
    (c18 : PySem.W.codeIn K cd18 "require_tree" = true)
    (k18 : PySem.W.keepIn K (.ref f18) = true)
    (a19 : PySem.W.nsIn K mainGlobals "plain_sums" = some (some (.ref f19)))
    (l19 : K.lookup f19 = some ⟨oc19, od19, .func (PySem.W.fnOf "plain_sums" "plain_sums" (defArgs s_plain_sums) (defBody s_plain_sums) (defScope s_plain_sums) .none kV19 dc19 pm19 an19 cd19 ct19), sl19⟩)
    (c19 : PySem.W.codeIn K cd19 "plain_sums" = true)
    (k19 : PySem.W.keepIn K (.ref f19) = true)
    (a20 : PySem.W.nsIn K mainGlobals "cut_levels" = some (some (.ref f20)))
    (l20 : K.lookup f20 = some ⟨oc20, od20, .func (PySem.W.fnOf "cut_levels" "cut_levels" (defArgs s_cut_levels) (defBody s_cut_levels) (defScope s_cut_levels) .none kV20 dc20 pm20 an20 cd20 ct20), sl20⟩)
    (c20 : PySem.W.codeIn K cd20 "cut_levels" = true)
    (k20 : PySem.W.keepIn K (.ref f20) = true)
    (a21 : PySem.W.nsIn K mainGlobals "sums_of" = some (some (.ref f21)))
    (l21 : K.lookup f21 = some ⟨oc21, od21, .func (PySem.W.fnOf "sums_of" "sums_of" (defArgs s_sums_of) (defBody s_sums_of) (defScope s_sums_of) .none kV21 dc21 pm21 an21 cd21 ct21), sl21⟩)
    (c21 : PySem.W.codeIn K cd21 "sums_of" = true)
    (k21 : PySem.W.keepIn K (.ref f21) = true)
    (a22 : PySem.W.nsIn K mainGlobals "spot_of" = some (some (.ref f22)))
    (l22 : K.lookup f22 = some ⟨oc22, od22, .func (PySem.W.fnOf "spot_of" "spot_of" (defArgs s_spot_of) (defBody s_spot_of) (defScope s_spot_of) .none kV22 dc22 pm22 an22 cd22 ct22), sl22⟩)
    (c22 : PySem.W.codeIn K cd22 "spot_of" = true)
    (k22 : PySem.W.keepIn K (.ref f22) = true)
    (a23 : PySem.W.nsIn K mainGlobals "place_of" = some (some (.ref f23)))
    (l23 : K.lookup f23 = some ⟨oc23, od23, .func (PySem.W.fnOf "place_of" "place_of" (defArgs s_place_of) (defBody s_place_of) (defScope s_place_of) .none kV23 dc23 pm23 an23 cd23 ct23), sl23⟩)
    (c23 : PySem.W.codeIn K cd23 "place_of" = true)
    (k23 : PySem.W.keepIn K (.ref f23) = true)
    (a24 : PySem.W.nsIn K mainGlobals "_law_kinds" = some (some (.ref f24)))
    (l24 : K.lookup f24 = some ⟨oc24, od24, .func (PySem.W.fnOf "_law_kinds" "_law_kinds" (defArgs s__law_kinds) (defBody s__law_kinds) (defScope s__law_kinds) .none kV24 dc24 pm24 an24 cd24 ct24), sl24⟩)
    (c24 : PySem.W.codeIn K cd24 "_law_kinds" = true)
    (k24 : PySem.W.keepIn K (.ref f24) = true)
    (a25 : PySem.W.nsIn K mainGlobals "require_place" = some (some (.ref f25)))
    (l25 : K.lookup f25 = some ⟨oc25, od25, .func (PySem.W.fnOf "require_place" "require_place" (defArgs s_require_place) (defBody s_require_place) (defScope s_require_place) .none kV25 dc25 pm25 an25 cd25 ct25), sl25⟩)
    (c25 : PySem.W.codeIn K cd25 "require_place" = true)
    (k25 : PySem.W.keepIn K (.ref f25) = true)
    (a26 : PySem.W.nsIn K mainGlobals "node_there" = some (some (.ref f26)))
    (l26 : K.lookup f26 = some ⟨oc26, od26, .func (PySem.W.fnOf "node_there" "node_there" (defArgs s_node_there) (defBody s_node_there) (defScope s_node_there) .none kV26 dc26 pm26 an26 cd26 ct26), sl26⟩)
    (c26 : PySem.W.codeIn K cd26 "node_there" = true)
    (k26 : PySem.W.keepIn K (.ref f26) = true)
    (a27 : PySem.W.nsIn K mainGlobals "node_at" = some (some (.ref f27)))
    (l27 : K.lookup f27 = some ⟨oc27, od27, .func (PySem.W.fnOf "node_at" "node_at" (defArgs s_node_at) (defBody s_node_at) (defScope s_node_at) .none kV27 dc27 pm27 an27 cd27 ct27), sl27⟩)
    (c27 : PySem.W.codeIn K cd27 "node_at" = true)
    (k27 : PySem.W.keepIn K (.ref f27) = true)
    (a28 : PySem.W.nsIn K mainGlobals "require_both" = some (some (.ref f28)))
    (l28 : K.lookup f28 = some ⟨oc28, od28, .func (PySem.W.fnOf "require_both" "require_both" (defArgs s_require_both) (defBody s_require_both) (defScope s_require_both) .none kV28 dc28 pm28 an28 cd28 ct28), sl28⟩)
    (c28 : PySem.W.codeIn K cd28 "require_both" = true)
    (k28 : PySem.W.keepIn K (.ref f28) = true)
    (a29 : PySem.W.nsIn K mainGlobals "meeting" = some (some (.ref f29)))
    (l29 : K.lookup f29 = some ⟨oc29, od29, .func (PySem.W.fnOf "meeting" "meeting" (defArgs s_meeting) (defBody s_meeting) (defScope s_meeting) .none kV29 dc29 pm29 an29 cd29 ct29), sl29⟩)
    (c29 : PySem.W.codeIn K cd29 "meeting" = true)
    (k29 : PySem.W.keepIn K (.ref f29) = true)
    (a30 : PySem.W.nsIn K mainGlobals "meet" = some (some (.ref f30)))
    (l30 : K.lookup f30 = some ⟨oc30, od30, .func (PySem.W.fnOf "meet" "meet" (defArgs s_meet) (defBody s_meet) (defScope s_meet) .none kV30 dc30 pm30 an30 cd30 ct30), sl30⟩)
    (c30 : PySem.W.codeIn K cd30 "meet" = true)
    (k30 : PySem.W.keepIn K (.ref f30) = true)
    (a31 : PySem.W.nsIn K mainGlobals "node_in" = some (some (.ref f31)))
    (l31 : K.lookup f31 = some ⟨oc31, od31, .func (PySem.W.fnOf "node_in" "node_in" (defArgs s_node_in) (defBody s_node_in) (defScope s_node_in) .none kV31 dc31 pm31 an31 cd31 ct31), sl31⟩)
    (c31 : PySem.W.codeIn K cd31 "node_in" = true)
    (k31 : PySem.W.keepIn K (.ref f31) = true)
    (a32 : PySem.W.nsIn K mainGlobals "read_nodes" = some (some (.ref f32)))
    (l32 : K.lookup f32 = some ⟨oc32, od32, .func (PySem.W.fnOf "read_nodes" "read_nodes" (defArgs s_read_nodes) (defBody s_read_nodes) (defScope s_read_nodes) .none kV32 dc32 pm32 an32 cd32 ct32), sl32⟩)
    (c32 : PySem.W.codeIn K cd32 "read_nodes" = true)
    (k32 : PySem.W.keepIn K (.ref f32) = true)
    (a33 : PySem.W.nsIn K mainGlobals "_law_right" = some (some (.ref f33)))
    (l33 : K.lookup f33 = some ⟨oc33, od33, .func (PySem.W.fnOf "_law_right" "_law_right" (defArgs s__law_right) (defBody s__law_right) (defScope s__law_right) .none kV33 dc33 pm33 an33 cd33 ct33), sl33⟩)
    (c33 : PySem.W.codeIn K cd33 "_law_right" = true)
    (k33 : PySem.W.keepIn K (.ref f33) = true)
    (a34 : PySem.W.nsIn K mainGlobals "law" = some (some (.ref f34)))
    (l34 : K.lookup f34 = some ⟨oc34, od34, .func (PySem.W.fnOf "law" "law" (defArgs s_law) (defBody s_law) (defScope s_law) .none kV34 dc34 pm34 an34 cd34 ct34), sl34⟩)
    (c34 : PySem.W.codeIn K cd34 "law" = true)
    (k34 : PySem.W.keepIn K (.ref f34) = true)
    (i_MOST_HEIGHT : PySem.W.nsIn K mainGlobals "MOST_HEIGHT" = some (some (.int 100 tk_MOST_HEIGHT)))
    (i_MOST_NODES : PySem.W.nsIn K mainGlobals "MOST_NODES" = some (some (.int 400 tk_MOST_NODES)))
    (j_CUT_KINDS : PySem.W.nsIn K mainGlobals "CUT_KINDS" = some (some (.ref ad_CUT_KINDS)))
    (q_CUT_KINDS : K.lookup ad_CUT_KINDS = some ⟨.type "tuple", sd_CUT_KINDS, .seq #[.str "lesser" st_CUT_KINDS_0, .str "greater" st_CUT_KINDS_1, .str "powers" st_CUT_KINDS_2] sn_CUT_KINDS, ss_CUT_KINDS⟩)
    (j_KINDS : PySem.W.nsIn K mainGlobals "KINDS" = some (some (.ref ad_KINDS)))
    (q_KINDS : K.lookup ad_KINDS = some ⟨.type "tuple", sd_KINDS, .seq #[.str "levels" st_KINDS_0, .str "inorder" st_KINDS_1, .str "preorder" st_KINDS_2, .str "postorder" st_KINDS_3, .str "lesser" st_KINDS_4, .str "greater" st_KINDS_5, .str "powers" st_KINDS_6] sn_KINDS, ss_KINDS⟩)
    (xa_InvalidKind : PySem.W.nsIn K mainGlobals "InvalidKind" = some (some (.ref C_InvalidKind)))
    (xq_InvalidKind : PySem.W.excIn K C_InvalidKind [.type "ValueError", .type "Exception", .type "BaseException", .type "object"] "ValueError.__new__" = true)
    (xk_InvalidKind : PySem.W.keepIn K (.ref C_InvalidKind) = true)
    (xs_InvalidKind : PySem.W.subIn K (.ref C_InvalidKind) (.type "BaseException") = some true)
    (xt_InvalidKind : PySem.W.typeIn K (.ref C_InvalidKind) = some (.type "type"))
    (xa_InvalidHeight : PySem.W.nsIn K mainGlobals "InvalidHeight" = some (some (.ref C_InvalidHeight)))
    (xq_InvalidHeight : PySem.W.excIn K C_InvalidHeight [.type "ValueError", .type "Exception", .type "BaseException", .type "object"] "ValueError.__new__" = true)
    (xk_InvalidHeight : PySem.W.keepIn K (.ref C_InvalidHeight) = true)
    (xs_InvalidHeight : PySem.W.subIn K (.ref C_InvalidHeight) (.type "BaseException") = some true)
    (xt_InvalidHeight : PySem.W.typeIn K (.ref C_InvalidHeight) = some (.type "type"))
    (xa_InvalidNode : PySem.W.nsIn K mainGlobals "InvalidNode" = some (some (.ref C_InvalidNode)))
    (xq_InvalidNode : PySem.W.excIn K C_InvalidNode [.type "ValueError", .type "Exception", .type "BaseException", .type "object"] "ValueError.__new__" = true)
    (xk_InvalidNode : PySem.W.keepIn K (.ref C_InvalidNode) = true)
    (xs_InvalidNode : PySem.W.subIn K (.ref C_InvalidNode) (.type "BaseException") = some true)
    (xt_InvalidNode : PySem.W.typeIn K (.ref C_InvalidNode) = some (.type "type"))
    (xa_InvalidPlace : PySem.W.nsIn K mainGlobals "InvalidPlace" = some (some (.ref C_InvalidPlace)))
    (xq_InvalidPlace : PySem.W.excIn K C_InvalidPlace [.type "ValueError", .type "Exception", .type "BaseException", .type "object"] "ValueError.__new__" = true)
    (xk_InvalidPlace : PySem.W.keepIn K (.ref C_InvalidPlace) = true)
    (xs_InvalidPlace : PySem.W.subIn K (.ref C_InvalidPlace) (.type "BaseException") = some true)
    (xt_InvalidPlace : PySem.W.typeIn K (.ref C_InvalidPlace) = some (.type "type"))
    (n_all : PySem.W.nsIn K mainGlobals "all" = some none)
    (n_bool : PySem.W.nsIn K mainGlobals "bool" = some none)
    (n_enumerate : PySem.W.nsIn K mainGlobals "enumerate" = some none)
    (n_int : PySem.W.nsIn K mainGlobals "int" = some none)
    (n_isinstance : PySem.W.nsIn K mainGlobals "isinstance" = some none)
    (n_len : PySem.W.nsIn K mainGlobals "len" = some none)
    (n_list : PySem.W.nsIn K mainGlobals "list" = some none)
    (n_max : PySem.W.nsIn K mainGlobals "max" = some none)
    (n_min : PySem.W.nsIn K mainGlobals "min" = some none)
    (n_range : PySem.W.nsIn K mainGlobals "range" = some none)
    (n_str : PySem.W.nsIn K mainGlobals "str" = some none)
    (n_tuple : PySem.W.nsIn K mainGlobals "tuple" = some none)
    (n_zip : PySem.W.nsIn K mainGlobals "zip" = some none) :
    ∃ (C : Ct) (fd : FuncData), C.K = K ∧ (∀ (s : Shared) (v : Value), BindsTo s fd ⟨[v], []⟩ [("_law_script", v)]) ∧ ∀ base : Heap, K.In base → base.Ns mainGlobals mg → FnG l.prog w K mg base (L2.CX l.prog w) 9 fa fd ["_law_script"] (spD C [] 1 m_law) := by
  have e := hfa.symm.trans (PySem.W.mg_of X G a34)
  cases e
  have F0 := fun_mk (st := s__law_bag) l0 c0 k0
  have B0 := F0.binds (ps := ["_law_cell"]) fun _ _ _ _ _ _ us hl => match us, hl with | [_], _ => rfl
  have F1 := fun_mk (st := s__law_begin) l1 c1 k1
  have B1 := F1.binds (ps := ["_law_text"]) fun _ _ _ _ _ _ us hl => match us, hl with | [_], _ => rfl
  have F2 := fun_mk (st := s__law_pick) l2 c2 k2
  have B2 := F2.binds (ps := ["_law_bag_here", "_law_many"]) fun _ _ _ _ _ _ us hl => match us, hl with | [_, _], _ => rfl
  have F3 := fun_mk (st := s__law_node) l3 c3 k3
  have B3 := F3.binds (ps := ["_law_bag_here", "_law_levels_here"]) fun _ _ _ _ _ _ us hl => match us, hl with | [_, _], _ => rfl
  have F4 := fun_mk (st := s__law_way) l4 c4 k4
  have B4 := F4.binds (ps := ["_law_node_here"]) fun _ _ _ _ _ _ us hl => match us, hl with | [_], _ => rfl
  have F5 := fun_mk (st := s_is_int) l5 c5 k5
  have B5 := F5.binds (ps := ["value"]) fun _ _ _ _ _ _ us hl => match us, hl with | [_], _ => rfl
  have F6 := fun_mk (st := s_is_whole) l6 c6 k6
  have B6 := F6.binds (ps := ["value", "low", "high"]) fun _ _ _ _ _ _ us hl => match us, hl with | [_, _, _], _ => rfl
  have F7 := fun_mk (st := s_is_node) l7 c7 k7
  have B7 := F7.binds (ps := ["height", "value"]) fun _ _ _ _ _ _ us hl => match us, hl with | [_, _], _ => rfl
  have F8 := fun_mk (st := s_node_text) l8 c8 k8
  have B8 := F8.binds (ps := ["node"]) fun _ _ _ _ _ _ us hl => match us, hl with | [_], _ => rfl
  have F9 := fun_mk (st := s_show_nodes) l9 c9 k9
  have B9 := F9.binds (ps := ["nodes"]) fun _ _ _ _ _ _ us hl => match us, hl with | [_], _ => rfl
  have F10 := fun_mk (st := s_require_height) l10 c10 k10
  have B10 := F10.binds (ps := ["value"]) fun _ _ _ _ _ _ us hl => match us, hl with | [_], _ => rfl
  have F11 := fun_mk (st := s_require_node) l11 c11 k11
  have B11 := F11.binds (ps := ["height", "value"]) fun _ _ _ _ _ _ us hl => match us, hl with | [_, _], _ => rfl
  have F12 := fun_mk (st := s_require_kin) l12 c12 k12
  have B12 := F12.binds (ps := ["height", "node"]) fun _ _ _ _ _ _ us hl => match us, hl with | [_, _], _ => rfl
  have F13 := fun_mk (st := s_children) l13 c13 k13
  have B13 := F13.binds (ps := ["height", "node"]) fun _ _ _ _ _ _ us hl => match us, hl with | [_, _], _ => rfl
  have F14 := fun_mk (st := s_parent_of) l14 c14 k14
  have B14 := F14.binds (ps := ["node"]) fun _ _ _ _ _ _ us hl => match us, hl with | [_], _ => rfl
  have F15 := fun_mk (st := s_parent) l15 c15 k15
  have B15 := F15.binds (ps := ["height", "node"]) fun _ _ _ _ _ _ us hl => match us, hl with | [_, _], _ => rfl
  have F16 := fun_mk (st := s_show_node) l16 c16 k16
  have B16 := F16.binds (ps := ["node"]) fun _ _ _ _ _ _ us hl => match us, hl with | [_], _ => rfl
  have F17 := fun_mk (st := s_require_kind) l17 c17 k17
  have B17 := F17.binds (ps := ["value"]) fun _ _ _ _ _ _ us hl => match us, hl with | [_], _ => rfl
  have F18 := fun_mk (st := s_require_tree) l18 c18 k18
  have B18 := F18.binds (ps := ["kind", "height"]) fun _ _ _ _ _ _ us hl => match us, hl with | [_, _], _ => rfl
  have F19 := fun_mk (st := s_plain_sums) l19 c19 k19
  have B19 := F19.binds (ps := ["kind", "height", "depth"]) fun _ _ _ _ _ _ us hl => match us, hl with | [_, _, _], _ => rfl
  have F20 := fun_mk (st := s_cut_levels) l20 c20 k20
  have B20 := F20.binds (ps := ["kind", "height"]) fun _ _ _ _ _ _ us hl => match us, hl with | [_, _], _ => rfl
  have F21 := fun_mk (st := s_sums_of) l21 c21 k21
  have B21 := F21.binds (ps := ["kind", "height", "depth"]) fun _ _ _ _ _ _ us hl => match us, hl with | [_, _, _], _ => rfl
  have F22 := fun_mk (st := s_spot_of) l22 c22 k22
  have B22 := F22.binds (ps := ["kind", "height", "node"]) fun _ _ _ _ _ _ us hl => match us, hl with | [_, _, _], _ => rfl
  have F23 := fun_mk (st := s_place_of) l23 c23 k23
  have B23 := F23.binds (ps := ["kind", "height", "node"]) fun _ _ _ _ _ _ us hl => match us, hl with | [_, _, _], _ => rfl
  have F24 := fun_mk (st := s__law_kinds) l24 c24 k24
  have B24 := F24.binds (ps := []) fun _ _ _ _ _ _ us hl => match us, hl with | [], _ => rfl
  have F25 := fun_mk (st := s_require_place) l25 c25 k25
  have B25 := F25.binds (ps := ["height", "value"]) fun _ _ _ _ _ _ us hl => match us, hl with | [_, _], _ => rfl
  have F26 := fun_mk (st := s_node_there) l26 c26 k26
  have B26 := F26.binds (ps := ["kind", "height", "place"]) fun _ _ _ _ _ _ us hl => match us, hl with | [_, _, _], _ => rfl
  have F27 := fun_mk (st := s_node_at) l27 c27 k27
  have B27 := F27.binds (ps := ["kind", "height", "place"]) fun _ _ _ _ _ _ us hl => match us, hl with | [_, _, _], _ => rfl
  have F28 := fun_mk (st := s_require_both) l28 c28 k28
  have B28 := F28.binds (ps := ["height", "node", "second"]) fun _ _ _ _ _ _ us hl => match us, hl with | [_, _, _], _ => rfl
  have F29 := fun_mk (st := s_meeting) l29 c29 k29
  have B29 := F29.binds (ps := ["node", "second"]) fun _ _ _ _ _ _ us hl => match us, hl with | [_, _], _ => rfl
  have F30 := fun_mk (st := s_meet) l30 c30 k30
  have B30 := F30.binds (ps := ["height", "node", "second"]) fun _ _ _ _ _ _ us hl => match us, hl with | [_, _, _], _ => rfl
  have F31 := fun_mk (st := s_node_in) l31 c31 k31
  have B31 := F31.binds (ps := ["word"]) fun _ _ _ _ _ _ us hl => match us, hl with | [_], _ => rfl
  have F32 := fun_mk (st := s_read_nodes) l32 c32 k32
  have B32 := F32.binds (ps := ["text"]) fun _ _ _ _ _ _ us hl => match us, hl with | [_], _ => rfl
  have F33 := fun_mk (st := s__law_right) l33 c33 k33
  have B33 := F33.binds (ps := ["_law_bag_here", "_law_most"]) fun _ _ _ _ _ _ us hl => match us, hl with | [_, _], _ => rfl
  have F34 := fun_mk (st := s_law) l34 c34 k34
  have B34 := F34.binds (ps := ["_law_script"]) fun _ _ _ _ _ _ us hl => match us, hl with | [_], _ => rfl
  have T : Txt K mg { cl := fun n => match n with | 4 => C_InvalidKind | 5 => C_InvalidHeight | 6 => C_InvalidNode | 8 => C_InvalidPlace | _ => fa, f__law_bag := f0, d__law_bag := _, f__law_begin := f1, d__law_begin := _, f__law_pick := f2, d__law_pick := _, f__law_node := f3, d__law_node := _, f__law_way := f4, d__law_way := _, f_is_int := f5, d_is_int := _, f_is_whole := f6, d_is_whole := _, f_is_node := f7, d_is_node := _, f_node_text := f8, d_node_text := _, f_show_nodes := f9, d_show_nodes := _, f_require_height := f10, d_require_height := _, f_require_node := f11, d_require_node := _, f_require_kin := f12, d_require_kin := _, f_children := f13, d_children := _, f_parent_of := f14, d_parent_of := _, f_parent := f15, d_parent := _, f_show_node := f16, d_show_node := _, f_require_kind := f17, d_require_kind := _, f_require_tree := f18, d_require_tree := _, f_plain_sums := f19, d_plain_sums := _, f_cut_levels := f20, d_cut_levels := _, f_sums_of := f21, d_sums_of := _, f_spot_of := f22, d_spot_of := _, f_place_of := f23, d_place_of := _, f__law_kinds := f24, d__law_kinds := _, f_require_place := f25, d_require_place := _, f_node_there := f26, d_node_there := _, f_node_at := f27, d_node_at := _, f_require_both := f28, d_require_both := _, f_meeting := f29, d_meeting := _, f_meet := f30, d_meet := _, f_node_in := f31, d_node_in := _, f_read_nodes := f32, d_read_nodes := _, f__law_right := f33, d__law_right := _, f_law := fa, d_law := _, a_CUT_KINDS := ad_CUT_KINDS, a_KINDS := ad_KINDS, k_MOST_HEIGHT := tk_MOST_HEIGHT, k_MOST_NODES := tk_MOST_NODES } :=
    { F__law_bag := F0, m__law_bag := PySem.W.mg_of X G a0, k__law_bag := k0, b__law_bag := B0, F__law_begin := F1, m__law_begin := PySem.W.mg_of X G a1, k__law_begin := k1, b__law_begin := B1, F__law_pick := F2, m__law_pick := PySem.W.mg_of X G a2, k__law_pick := k2, b__law_pick := B2, F__law_node := F3, m__law_node := PySem.W.mg_of X G a3, k__law_node := k3, b__law_node := B3, F__law_way := F4, m__law_way := PySem.W.mg_of X G a4, k__law_way := k4, b__law_way := B4, F_is_int := F5, m_is_int := PySem.W.mg_of X G a5, k_is_int := k5, b_is_int := B5, F_is_whole := F6, m_is_whole := PySem.W.mg_of X G a6, k_is_whole := k6, b_is_whole := B6, F_is_node := F7, m_is_node := PySem.W.mg_of X G a7, k_is_node := k7, b_is_node := B7, F_node_text := F8, m_node_text := PySem.W.mg_of X G a8, k_node_text := k8, b_node_text := B8, F_show_nodes := F9, m_show_nodes := PySem.W.mg_of X G a9, k_show_nodes := k9, b_show_nodes := B9, F_require_height := F10, m_require_height := PySem.W.mg_of X G a10, k_require_height := k10, b_require_height := B10, F_require_node := F11, m_require_node := PySem.W.mg_of X G a11, k_require_node := k11, b_require_node := B11, F_require_kin := F12, m_require_kin := PySem.W.mg_of X G a12, k_require_kin := k12, b_require_kin := B12, F_children := F13, m_children := PySem.W.mg_of X G a13, k_children := k13, b_children := B13, F_parent_of := F14, m_parent_of := PySem.W.mg_of X G a14, k_parent_of := k14, b_parent_of := B14, F_parent := F15, m_parent := PySem.W.mg_of X G a15, k_parent := k15, b_parent := B15, F_show_node := F16, m_show_node := PySem.W.mg_of X G a16, k_show_node := k16, b_show_node := B16, F_require_kind := F17, m_require_kind := PySem.W.mg_of X G a17, k_require_kind := k17, b_require_kind := B17, F_require_tree := F18, m_require_tree := PySem.W.mg_of X G a18, k_require_tree := k18, b_require_tree := B18, F_plain_sums := F19, m_plain_sums := PySem.W.mg_of X G a19, k_plain_sums := k19, b_plain_sums := B19, F_cut_levels := F20, m_cut_levels := PySem.W.mg_of X G a20, k_cut_levels := k20, b_cut_levels := B20, F_sums_of := F21, m_sums_of := PySem.W.mg_of X G a21, k_sums_of := k21, b_sums_of := B21, F_spot_of := F22, m_spot_of := PySem.W.mg_of X G a22, k_spot_of := k22, b_spot_of := B22, F_place_of := F23, m_place_of := PySem.W.mg_of X G a23, k_place_of := k23, b_place_of := B23, F__law_kinds := F24, m__law_kinds := PySem.W.mg_of X G a24, k__law_kinds := k24, b__law_kinds := B24, F_require_place := F25, m_require_place := PySem.W.mg_of X G a25, k_require_place := k25, b_require_place := B25, F_node_there := F26, m_node_there := PySem.W.mg_of X G a26, k_node_there := k26, b_node_there := B26, F_node_at := F27, m_node_at := PySem.W.mg_of X G a27, k_node_at := k27, b_node_at := B27, F_require_both := F28, m_require_both := PySem.W.mg_of X G a28, k_require_both := k28, b_require_both := B28, F_meeting := F29, m_meeting := PySem.W.mg_of X G a29, k_meeting := k29, b_meeting := B29, F_meet := F30, m_meet := PySem.W.mg_of X G a30, k_meet := k30, b_meet := B30, F_node_in := F31, m_node_in := PySem.W.mg_of X G a31, k_node_in := k31, b_node_in := B31, F_read_nodes := F32, m_read_nodes := PySem.W.mg_of X G a32, k_read_nodes := k32, b_read_nodes := B32, F__law_right := F33, m__law_right := PySem.W.mg_of X G a33, k__law_right := k33, b__law_right := B33, F_law := F34, m_law := PySem.W.mg_of X G a34, k_law := k34, b_law := B34, c_MOST_HEIGHT := PySem.W.mg_of X G i_MOST_HEIGHT, c_MOST_NODES := PySem.W.mg_of X G i_MOST_NODES, c_CUT_KINDS := PySem.W.mg_of X G j_CUT_KINDS, t_CUT_KINDS := ⟨_, _, _, q_CUT_KINDS, rfl, rfl, by rw [sizeLine_eq]; show 3 ≤ 16777216; decide, (.cons ⟨st_CUT_KINDS_0, by first | rfl | exact congrArg (fun z => Value.str z _) (by decide +kernel)⟩ (.cons ⟨st_CUT_KINDS_1, by first | rfl | exact congrArg (fun z => Value.str z _) (by decide +kernel)⟩ (.cons ⟨st_CUT_KINDS_2, by first | rfl | exact congrArg (fun z => Value.str z _) (by decide +kernel)⟩ .nil)))⟩, c_KINDS := PySem.W.mg_of X G j_KINDS, t_KINDS := ⟨_, _, _, q_KINDS, rfl, rfl, by rw [sizeLine_eq]; show 7 ≤ 16777216; decide, (.cons ⟨st_KINDS_0, by first | rfl | exact congrArg (fun z => Value.str z _) (by decide +kernel)⟩ (.cons ⟨st_KINDS_1, by first | rfl | exact congrArg (fun z => Value.str z _) (by decide +kernel)⟩ (.cons ⟨st_KINDS_2, by first | rfl | exact congrArg (fun z => Value.str z _) (by decide +kernel)⟩ (.cons ⟨st_KINDS_3, by first | rfl | exact congrArg (fun z => Value.str z _) (by decide +kernel)⟩ (.cons ⟨st_KINDS_4, by first | rfl | exact congrArg (fun z => Value.str z _) (by decide +kernel)⟩ (.cons ⟨st_KINDS_5, by first | rfl | exact congrArg (fun z => Value.str z _) (by decide +kernel)⟩ (.cons ⟨st_KINDS_6, by first | rfl | exact congrArg (fun z => Value.str z _) (by decide +kernel)⟩ .nil)))))))⟩, xq_InvalidKind := xq_InvalidKind, xm_InvalidKind := PySem.W.mg_of X G xa_InvalidKind, xk_InvalidKind := xk_InvalidKind, xs_InvalidKind := xs_InvalidKind, xt_InvalidKind := xt_InvalidKind, xq_InvalidHeight := xq_InvalidHeight, xm_InvalidHeight := PySem.W.mg_of X G xa_InvalidHeight, xk_InvalidHeight := xk_InvalidHeight, xs_InvalidHeight := xs_InvalidHeight, xt_InvalidHeight := xt_InvalidHeight, xq_InvalidNode := xq_InvalidNode, xm_InvalidNode := PySem.W.mg_of X G xa_InvalidNode, xk_InvalidNode := xk_InvalidNode, xs_InvalidNode := xs_InvalidNode, xt_InvalidNode := xt_InvalidNode, xq_InvalidPlace := xq_InvalidPlace, xm_InvalidPlace := PySem.W.mg_of X G xa_InvalidPlace, xk_InvalidPlace := xk_InvalidPlace, xs_InvalidPlace := xs_InvalidPlace, xt_InvalidPlace := xt_InvalidPlace, n_all := PySem.W.mg_none_of X G n_all, n_bool := PySem.W.mg_none_of X G n_bool, n_enumerate := PySem.W.mg_none_of X G n_enumerate, n_int := PySem.W.mg_none_of X G n_int, n_isinstance := PySem.W.mg_none_of X G n_isinstance, n_len := PySem.W.mg_none_of X G n_len, n_list := PySem.W.mg_none_of X G n_list, n_max := PySem.W.mg_none_of X G n_max, n_min := PySem.W.mg_none_of X G n_min, n_range := PySem.W.mg_none_of X G n_range, n_str := PySem.W.mg_none_of X G n_str, n_tuple := PySem.W.mg_none_of X G n_tuple, n_zip := PySem.W.mg_none_of X G n_zip }
  exact ⟨ct K _, _, rfl, fun s v => .of_eq rfl, fun base _ _ => ok_law T⟩
end SM
open PySem PySem.W PyProof.Rows
set_option maxRecDepth 100000 in
set_option maxHeartbeats 0 in
theorem PySem.Challenge.cw_storedtrees_k47_whole_texts_holds : PySem.Challenge.rw_storedtrees_k47_whole_texts.Holds := by
  w_on; o_law; k_head; (case hw => w_witness2)
  k_fill
  refine DL.walk_end (l := PySem.Challenge.rw_storedtrees_k47_whole_texts) (k := 9) (x := "_law_script") rfl rfl ⟨rfl, by decide, by decide⟩ (fun w h Y => PySem.W.kIn_of Y) SM.law_true ?F
  case F =>
    intro w mg fa h KX G hmg
    refine' SM.all_mk KX G hmg ?a0 ?l0 ?c0 ?k0 ?a1 ?l1 ?c1 ?k1 ?a2 ?l2 ?c2 ?k2 ?a3 ?l3 ?c3 ?k3 ?a4 ?l4 ?c4 ?k4 ?a5 ?l5 ?c5 ?k5 ?a6 ?l6 ?c6 ?k6 ?a7 ?l7 ?c7 ?k7 ?a8 ?l8 ?c8 ?k8 ?a9 ?l9 ?c9 ?k9 ?a10 ?l10 ?c10 ?k10 ?a11 ?l11 ?c11 ?k11 ?a12 ?l12 ?c12 ?k12 ?a13 ?l13 ?c13 ?k13 ?a14 ?l14 ?c14 ?k14 ?a15 ?l15 ?c15 ?k15 ?a16 ?l16 ?c16 ?k16 ?a17 ?l17 ?c17 ?k17 ?a18 ?l18 ?c18 ?k18 ?a19 ?l19 ?c19 ?k19 ?a20 ?l20 ?c20 ?k20 ?a21 ?l21 ?c21 ?k21 ?a22 ?l22 ?c22 ?k22 ?a23 ?l23 ?c23 ?k23 ?a24 ?l24 ?c24 ?k24 ?a25 ?l25 ?c25 ?k25 ?a26 ?l26 ?c26 ?k26 ?a27 ?l27 ?c27 ?k27 ?a28 ?l28 ?c28 ?k28 ?a29 ?l29 ?c29 ?k29 ?a30 ?l30 ?c30 ?k30 ?a31 ?l31 ?c31 ?k31 ?a32 ?l32 ?c32 ?k32 ?a33 ?l33 ?c33 ?k33 ?a34 ?l34 ?c34 ?k34 ?i_MOST_HEIGHT ?i_MOST_NODES ?j_CUT_KINDS ?q_CUT_KINDS ?j_KINDS ?q_KINDS ?xa_InvalidKind ?xq_InvalidKind ?xk_InvalidKind ?xs_InvalidKind ?xt_InvalidKind ?xa_InvalidHeight ?xq_InvalidHeight ?xk_InvalidHeight ?xs_InvalidHeight ?xt_InvalidHeight ?xa_InvalidNode ?xq_InvalidNode ?xk_InvalidNode ?xs_InvalidNode ?xt_InvalidNode ?xa_InvalidPlace ?xq_InvalidPlace ?xk_InvalidPlace ?xs_InvalidPlace ?xt_InvalidPlace ?n_all ?n_bool ?n_enumerate ?n_int ?n_isinstance ?n_len ?n_list ?n_max ?n_min ?n_range ?n_str ?n_tuple ?n_zip
    (case a0 => k_is)
    (case l0 => k_is)
    (case c0 => k_is)
    (case k0 => k_is)
    (case a1 => k_is)
    (case l1 => k_is)
    (case c1 => k_is)
    (case k1 => k_is)
    (case a2 => k_is)
    (case l2 => k_is)
    (case c2 => k_is)
    (case k2 => k_is)
    (case a3 => k_is)
    (case l3 => k_is)
    (case c3 => k_is)
    (case k3 => k_is)
    (case a4 => k_is)
    (case l4 => k_is)
    (case c4 => k_is)
    (case k4 => k_is)
    (case a5 => k_is)
    (case l5 => k_is)
    (case c5 => k_is)
    (case k5 => k_is)
    (case a6 => k_is)
    (case l6 => k_is)
    (case c6 => k_is)
    (case k6 => k_is)
    (case a7 => k_is)
    (case l7 => k_is)
    (case c7 => k_is)
    (case k7 => k_is)
    (case a8 => k_is)
    (case l8 => k_is)
    (case c8 => k_is)
    (case k8 => k_is)
    (case a9 => k_is)
    (case l9 => k_is)
    (case c9 => k_is)
    (case k9 => k_is)
    (case a10 => k_is)
    (case l10 => k_is)
    (case c10 => k_is)
    (case k10 => k_is)
    (case a11 => k_is)
    (case l11 => k_is)
    (case c11 => k_is)
    (case k11 => k_is)
    (case a12 => k_is)
    (case l12 => k_is)
    (case c12 => k_is)
    (case k12 => k_is)
    (case a13 => k_is)
    (case l13 => k_is)
    (case c13 => k_is)
    (case k13 => k_is)
    (case a14 => k_is)
    (case l14 => k_is)
    (case c14 => k_is)
    (case k14 => k_is)
    (case a15 => k_is)
    (case l15 => k_is)
    (case c15 => k_is)
    (case k15 => k_is)
    (case a16 => k_is)
    (case l16 => k_is)
    (case c16 => k_is)
    (case k16 => k_is)
    (case a17 => k_is)
    (case l17 => k_is)
    (case c17 => k_is)
    (case k17 => k_is)
    (case a18 => k_is)
    (case l18 => k_is)
    (case c18 => k_is)
    (case k18 => k_is)
    (case a19 => k_is)
    (case l19 => k_is)
    (case c19 => k_is)
    (case k19 => k_is)
    (case a20 => k_is)
    (case l20 => k_is)
    (case c20 => k_is)
    (case k20 => k_is)
    (case a21 => k_is)
    (case l21 => k_is)
    (case c21 => k_is)
    (case k21 => k_is)
    (case a22 => k_is)
    (case l22 => k_is)
    (case c22 => k_is)
    (case k22 => k_is)
    (case a23 => k_is)
    (case l23 => k_is)
    (case c23 => k_is)
    (case k23 => k_is)
    (case a24 => k_is)
    (case l24 => k_is)
    (case c24 => k_is)
    (case k24 => k_is)
    (case a25 => k_is)
    (case l25 => k_is)
    (case c25 => k_is)
    (case k25 => k_is)
    (case a26 => k_is)
    (case l26 => k_is)
    (case c26 => k_is)
    (case k26 => k_is)
    (case a27 => k_is)
    (case l27 => k_is)
    (case c27 => k_is)
    (case k27 => k_is)
    (case a28 => k_is)
    (case l28 => k_is)
    (case c28 => k_is)
    (case k28 => k_is)
    (case a29 => k_is)
    (case l29 => k_is)
    (case c29 => k_is)
    (case k29 => k_is)
    (case a30 => k_is)
    (case l30 => k_is)
    (case c30 => k_is)
    (case k30 => k_is)
    (case a31 => k_is)
    (case l31 => k_is)
    (case c31 => k_is)
    (case k31 => k_is)
    (case a32 => k_is)
    (case l32 => k_is)
    (case c32 => k_is)
    (case k32 => k_is)
    (case a33 => k_is)
    (case l33 => k_is)
    (case c33 => k_is)
    (case k33 => k_is)
    (case a34 => k_is)
    (case l34 => k_is)
    (case c34 => k_is)
    (case k34 => k_is)
    (case i_MOST_HEIGHT => k_is)
    (case i_MOST_NODES => k_is)
    (case j_CUT_KINDS => k_is)
    (case q_CUT_KINDS => k_is)
    (case j_KINDS => k_is)
    (case q_KINDS => k_is)
    (case xa_InvalidKind => k_is)
    (case xq_InvalidKind => k_exc)
    (case xk_InvalidKind => k_is)
    (case xs_InvalidKind => k_is)
    (case xt_InvalidKind => k_is)
    (case xa_InvalidHeight => k_is)
    (case xq_InvalidHeight => k_exc)
    (case xk_InvalidHeight => k_is)
    (case xs_InvalidHeight => k_is)
    (case xt_InvalidHeight => k_is)
    (case xa_InvalidNode => k_is)
    (case xq_InvalidNode => k_exc)
    (case xk_InvalidNode => k_is)
    (case xs_InvalidNode => k_is)
    (case xt_InvalidNode => k_is)
    (case xa_InvalidPlace => k_is)
    (case xq_InvalidPlace => k_exc)
    (case xk_InvalidPlace => k_is)
    (case xs_InvalidPlace => k_is)
    (case xt_InvalidPlace => k_is)
    (case n_all => k_is)
    (case n_bool => k_is)
    (case n_enumerate => k_is)
    (case n_int => k_is)
    (case n_isinstance => k_is)
    (case n_len => k_is)
    (case n_list => k_is)
    (case n_max => k_is)
    (case n_min => k_is)
    (case n_range => k_is)
    (case n_str => k_is)
    (case n_tuple => k_is)
    (case n_zip => k_is)
