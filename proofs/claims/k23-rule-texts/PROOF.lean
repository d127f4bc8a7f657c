import PyProof.Rows.All
import Wide.All
import OpenK.AllK
import Wide.FinOn
import KE.KNestM
import HandS.ForMost
import HandS.Wide
import HandS.Lambda
import HandS.Defaults
import HandS.Exc
import HandS.HeadHook1
import HandS.IsInst
import HandS.Deep
import HandS.TupAny
import HandS.Flow
import HandS.Style
import HandS.TupLe
import HandS.More
import HandS.Conv
import KE.GoesEnum
import HandS.HeadEnd
import HandS.HeadHook4
import HandS.WideBits
import HandS.WideMore
import HandS.Zip
import HandS.SetFor
import HandS.SortKw
import KE.DataMinMax
import HandS.DictComp
import HandS.Iter
import KE.SortData
import HandS.TupMul
import HandS.ExcOwn
import HandS.WordsExc
import HandS.TryMany
import KE.KTryMore
import KE.KExcIs
import HandS.ExcField
import HandS.ExcInit
import HandS.HeadHook2
import HandS.HeadHook3
import HandS.Text
import PyProof.Rows.StrStep
import PyProof.ReprLen
import HandS.FStr
import HandS.Base
import HandS.Call
import HandS.Ends
import HandS.Words
import HandS.Head0
import HandS.Head1
import HandS.Head2
import PyProof.LongRange
import PyProof.ListMulRight
import PyProof.ListMulAny
import PySem.Challenge.RW_endlessinn_k23_rule_texts
set_option Elab.async false
set_option linter.all false
set_option maxRecDepth 100000
set_option maxHeartbeats 4000000
namespace L2.Pd
open PySem PySem.Spec PyProof.Rows
def lamNames : List Str := ["goings_of", "stays", "_law_goings"]
/-- the tables of the defs that make lambdas, the lambdas' names -/
def tabsL (K : PySem.W.Frag) : List (Addr × Str) := lamNames.filterMap fun x => (PySem.W.tabIn K x).map fun p => (p.2, x ++ ".<locals>." ++ "<lambda>")
/-- o stands; a table may have grown -/
def Sty (o : HO) (x : Option HO) : Prop := x = some o ∨ ∃ ps ps', o = .tbl ps ∧ x = some (.tbl ps')
def NT (o : HO) : Prop := ∀ ps, o ≠ .tbl ps
theorem Sty.eq {o : HO} {x : Option HO} (h : Sty o x) (n : NT o) : x = some o := by
  rcases h with h | ⟨ps, _, e, _⟩
  · exact h
  · exact absurd e (n ps)
theorem Sty.isSome {o : HO} {x : Option HO} (h : Sty o x) : x ≠ none := by
  rcases h with h | ⟨ps, _, _, h⟩ <;> rw [h] <;> exact fun z => nomatch z
theorem Sty.trans {o : HO} {x y : Option HO} (h : Sty o x) (k : ∀ u, x = some u → Sty u y) : Sty o y := by
  rcases h with h | ⟨ps, ps', e, h⟩
  · exact k o h
  · rcases k _ h with z | ⟨qs, qs', e2, z⟩
    · exact .inr ⟨ps, ps', e, z⟩
    · exact .inr ⟨ps, qs', e, z⟩
theorem nt_lst {xs : List V} : NT (.lst xs) := fun _ z => nomatch z
theorem nt_tup {xs : List V} : NT (.tup xs) := fun _ z => nomatch z
theorem nt_dK {xs : List (L2.Key × V)} : NT (.dK xs) := fun _ z => nomatch z
theorem nt_frz {o : Obj} {u : HO} : NT (.frz o u) := fun _ z => nomatch z
theorem nt_xd {fs : List (Str × V)} : NT (.xd fs) := fun _ z => nomatch z
theorem nt_ext {φ : Heap → Prop} : NT (.ext φ) := fun _ z => nomatch z
section
variable {H : Hp} {a : Addr} {u u' : HO} {K : PySem.W.Frag}
/-- a change of another thing leaves the tables -/
theorem tabs_upd {T : List (Addr × Str)} (t : LamX.Tabs T H) (e : H a = some u) (n : NT u) (n2 : ∀ φ, u ≠ .ext φ) : LamX.Tabs T (upd H a u') := fun p hp => by
  obtain ⟨ps, h1, h2, h3⟩ := t p hp
  refine ⟨ps, by rw [upd_ne fun z => n ps (Option.some.inj (e.symm.trans (by rw [← z]; exact h1)))]; exact h1, h2, fun pos cv hc => ?_⟩
  obtain ⟨c, e1, e2⟩ := h3 pos cv hc
  exact ⟨c, e1, by rw [upd_ne fun z => n2 _ (Option.some.inj (e.symm.trans (by rw [← z]; exact e2)))]; exact e2⟩
end
end L2.Pd
set_option maxHeartbeats 4000000
namespace L2.Pd
open PySem PySem.Spec PyProof.Rows

/-- data by value; box: a list of ints that is shared and changed (the law's purse) -/
inductive D where
  | non | bl (b : Bool) | int (i : Int) | str (x : Str) | ty (n : String) | tup (ds : List D) | lst (ds : List D) | box (n : Nat) | dct (ks : List L2.Key) (ds : List D) | glo (x : Str) | exc (c : Str) (ns : List Str) (ds : List D)

abbrev Bxs := List Addr
abbrev Wd := Addr → Prop

/-- at a: an exception of the class at C, its dict at od -/
def exH (a C : Addr) (od : Option Addr) : HO := .ext fun h => ∃ oe : Obj, h.get? a = some oe ∧ L2.Zc (.ref C) od oe ∧ ∃ vs, oe.data = .fields vs

/-- a list of the written part -/
def KL (K : PySem.W.Frag) (a : Addr) (xs : List V) : Prop :=
  ∃ (o : Obj) (its : Array Value) (n : Nat), K.lookup a = some o ∧ o.cls = .type "list" ∧ o.dict = none ∧ o.data = .seq its n ∧ its.size ≤ sizeLine ∧ Vals xs its.toList

mutual
/-- v, over the heap H, is the datum d; W: lists that it may not touch -/
def Rep (K : PySem.W.Frag) (bx : Bxs) (W : Wd) (H : Hp) : D → V → Prop
  | .non, v => v = .non
  | .bl b, v => v = .bl b
  | .int i, v => v = .int i
  | .str x, v => v = .str x
  | .ty n, v => v = .ty n
  | .tup ds, v => ∃ a xs, v = .ref a ∧ SqT K H a xs ∧ RepL K bx W H ds xs
  | .lst ds, v => ∃ a xs, v = .ref a ∧ ((Rd H a (.lst xs) ∧ ¬ W a ∧ a ∉ bx) ∨ KL K a xs) ∧ RepL K bx W H ds xs
  | .box n, v => ∃ a, v = .ref a ∧ bx[n]? = some a
  | .dct ks ds, v => ∃ a xs, v = .ref a ∧ ks.length = ds.length ∧ Rd H a (.dK (ks.zip xs)) ∧ ¬ W a ∧ a ∉ bx ∧ RepL K bx W H ds xs
  | .glo x, v => v = .ref (He.ga K x)
  | .exc c ns ds, v => ∃ a od xs, v = .ref a ∧ Rd H a (exH a (He.ga K c) od) ∧ ns.length = ds.length ∧ ((od = none ∧ ns = []) ∨ ∃ d, od = some d ∧ Rd H d (.xd (ns.zip xs))) ∧ RepL K bx W H ds xs
def RepL (K : PySem.W.Frag) (bx : Bxs) (W : Wd) (H : Hp) : List D → List V → Prop
  | [], xs => xs = []
  | d :: ds, xs => ∃ v vs, xs = v :: vs ∧ Rep K bx W H d v ∧ RepL K bx W H ds vs
end

/-- a list or a dict -/
def Mut (o : HO) : Prop := (∃ xs, o = .lst xs) ∨ ∃ kvs, o = .dK kvs
theorem Mut.lst {xs : List V} : Mut (.lst xs) := .inl ⟨xs, rfl⟩
theorem Mut.dK {kvs : List (L2.Key × V)} : Mut (.dK kvs) := .inr ⟨kvs, rfl⟩
theorem Mut.nt {o : HO} (h : Mut o) : NT o := fun ps z => by rcases h with ⟨_, e⟩ | ⟨_, e⟩ <;> rw [e] at z <;> cases z
theorem Mut.ne {o : HO} (h : Mut o) : ∀ φ, o ≠ .ext φ := fun ps z => by rcases h with ⟨_, e⟩ | ⟨_, e⟩ <;> rw [e] at z <;> cases z
/-- o holds the parts xs (data ds) of d -/
def Hld (d : D) (ds : List D) (xs : List V) (o : HO) : Prop := (d = .lst ds ∧ o = .lst xs) ∨ ∃ ks, d = .dct ks ds ∧ ks.length = ds.length ∧ o = .dK (ks.zip xs)
theorem Hld.mut {d : D} {ds : List D} {xs : List V} {o : HO} (h : Hld d ds xs o) : Mut o := by
  rcases h with ⟨_, rfl⟩ | ⟨ks, _, _, rfl⟩
  · exact .lst
  · exact .dK
/-- all that is tracked stands, but the lists and dicts that may be touched -/
def Keep (bx : Bxs) (W : Wd) (H H' : Hp) : Prop := ∀ a o, H a = some o → (Mut o → ¬ W a ∧ a ∉ bx) → Sty o (H' a)

section
variable {K : PySem.W.Frag} {bx bx' : Bxs} {W W' : Wd} {H H' : Hp}

theorem SqT.keep (k : Keep bx W H H') {a : Addr} {xs : List V} (h : SqT K H a xs) : SqT K H' a xs := by
  rcases h with (h | ⟨o, h⟩) | h
  · exact .inl (.inl ((k _ _ h fun m => by rcases m with ⟨_, e⟩ | ⟨_, e⟩ <;> cases e).eq nt_tup))
  · exact .inl (.inr ⟨o, (k _ _ h fun m => by rcases m with ⟨_, e⟩ | ⟨_, e⟩ <;> cases e).eq nt_frz⟩)
  · exact .inr h
theorem Rd.keep (k : Keep bx W H H') {a : Addr} {u : HO} (h : Rd H a u) (h1 : ¬ W a) (h2 : a ∉ bx) (nt : NT u) : Rd H' a u := by
  rcases h with h | ⟨o, h⟩
  · exact .inl ((k _ _ h fun _ => ⟨h1, h2⟩).eq nt)
  · exact .inr ⟨o, (k _ _ h fun m => by rcases m with ⟨_, e⟩ | ⟨_, e⟩ <;> cases e).eq nt_frz⟩
theorem Rd.keepN (k : Keep bx W H H') {a : Addr} {u : HO} (h : Rd H a u) (n : ¬ Mut u) (nt : NT u) : Rd H' a u := by
  rcases h with h | ⟨o, h⟩
  · exact .inl ((k _ _ h fun m => absurd m n).eq nt)
  · exact .inr ⟨o, (k _ _ h fun m => by rcases m with ⟨_, e⟩ | ⟨_, e⟩ <;> cases e).eq nt_frz⟩
theorem Rd.some {a : Addr} {u : HO} (h : Rd H a u) : H a ≠ none := by
  rcases h with h | ⟨o, h⟩ <;> rw [h] <;> exact fun z => nomatch z

mutual
theorem Rep.to (k : Keep bx W H H') (w : ∀ a, W' a → W a ∨ H a = none) (b : ∀ a ∈ bx', a ∈ bx ∨ H a = none) (p : ∀ (n : Nat) (a : Addr), bx[n]? = some a → bx'[n]? = some a) : ∀ (d : D) (v : V), Rep K bx W H d v → Rep K bx' W' H' d v
  | .non, v, h => by unfold Rep at h ⊢; exact h
  | .bl _, v, h => by unfold Rep at h ⊢; exact h
  | .int _, v, h => by unfold Rep at h ⊢; exact h
  | .str _, v, h => by unfold Rep at h ⊢; exact h
  | .ty _, v, h => by unfold Rep at h ⊢; exact h
  | .tup ds, v, h => by
    unfold Rep at h ⊢
    obtain ⟨a, xs, e, h1, h2⟩ := h
    exact ⟨a, xs, e, SqT.keep k h1, RepL.to k w b p ds xs h2⟩
  | .lst ds, v, h => by
    unfold Rep at h ⊢
    obtain ⟨a, xs, e, h1, h2⟩ := h
    refine ⟨a, xs, e, ?_, RepL.to k w b p ds xs h2⟩
    rcases h1 with ⟨h1, h3, h4⟩ | h1
    · refine .inl ⟨Rd.keep k h1 h3 h4 nt_lst, fun z => ?_, fun z => ?_⟩
      · rcases w a z with z | z
        · exact h3 z
        · exact Rd.some h1 z
      · rcases b a z with z | z
        · exact h4 z
        · exact Rd.some h1 z
    · exact .inr h1
  | .box n, v, h => by
    unfold Rep at h ⊢
    obtain ⟨a, e, h1⟩ := h
    exact ⟨a, e, p n a h1⟩
  | .dct ks ds, v, h => by
    unfold Rep at h ⊢
    obtain ⟨a, xs, e, hl, h1, h3, h4, h2⟩ := h
    refine ⟨a, xs, e, hl, Rd.keep k h1 h3 h4 nt_dK, fun z => ?_, fun z => ?_, RepL.to k w b p ds xs h2⟩
    · rcases w a z with z | z
      · exact h3 z
      · exact Rd.some h1 z
    · rcases b a z with z | z
      · exact h4 z
      · exact Rd.some h1 z
  | .glo x, v, h => by unfold Rep at h ⊢; exact h
  | .exc c ns ds, v, h => by
    unfold Rep at h ⊢
    obtain ⟨a, od, xs, e, h1, hl, h2, h3⟩ := h
    refine ⟨a, od, xs, e, Rd.keepN k h1 (fun m => (by rcases m with ⟨_, e⟩ | ⟨_, e⟩ <;> cases e)) nt_ext, hl, ?_, RepL.to k w b p ds xs h3⟩
    rcases h2 with h2 | ⟨d, h2, h4⟩
    · exact .inl h2
    · exact .inr ⟨d, h2, Rd.keepN k h4 (fun m => by rcases m with ⟨_, e⟩ | ⟨_, e⟩ <;> cases e) nt_xd⟩
theorem RepL.to (k : Keep bx W H H') (w : ∀ a, W' a → W a ∨ H a = none) (b : ∀ a ∈ bx', a ∈ bx ∨ H a = none) (p : ∀ (n : Nat) (a : Addr), bx[n]? = some a → bx'[n]? = some a) : ∀ (ds : List D) (vs : List V), RepL K bx W H ds vs → RepL K bx' W' H' ds vs
  | [], vs, h => by unfold RepL at h ⊢; exact h
  | d :: ds, vs, h => by
    unfold RepL at h ⊢
    obtain ⟨v, vs', e, h1, h2⟩ := h
    exact ⟨v, vs', e, Rep.to k w b p d v h1, RepL.to k w b p ds vs' h2⟩
end
theorem Keep.refl : Keep bx W H H := fun _ _ h _ => .inl h
theorem Keep.new {a : Addr} {o : HO} (h : H a = none) : Keep bx W H (upd H a o) := fun b u e _ => .inl (by rw [upd_ne (ne_of_none e h)]; exact e)
/-- nothing tracked is changed -/
def Grow (H H' : Hp) : Prop := ∀ a o, H a = some o → H' a = some o
theorem Grow.refl : Grow H H := fun _ _ h => h
theorem Grow.trans {H1 H2 H3 : Hp} (g : Grow H1 H2) (g' : Grow H2 H3) : Grow H1 H3 := fun a o h => g' a o (g a o h)
theorem Grow.new {a : Addr} {o : HO} (h : H a = none) : Grow H (upd H a o) := fun b u e => by rw [upd_ne (ne_of_none e h)]; exact e
theorem Grow.keep (g : Grow H H') : Keep bx W H H' := fun a o h _ => .inl (g a o h)
theorem Grow.none (g : Grow H H') {a : Addr} (h : H' a = none) : H a = none := by
  cases q : H a with
  | none => rfl
  | some o => rw [g a o q] at h; cases h
theorem Rep.grow (g : Grow H H') (w : ∀ a, W' a → W a ∨ H a = none) {d : D} {v : V} (h : Rep K bx W H d v) : Rep K bx W' H' d v := Rep.to g.keep w (fun _ z => .inl z) (fun _ _ z => z) d v h
theorem RepL.grow (g : Grow H H') (w : ∀ a, W' a → W a ∨ H a = none) {d : List D} {v : List V} (h : RepL K bx W H d v) : RepL K bx W' H' d v := RepL.to g.keep w (fun _ z => .inl z) (fun _ _ z => z) d v h
theorem Rep.less (w : ∀ a, W' a → W a) {d : D} {v : V} (h : Rep K bx W H d v) : Rep K bx W' H d v := Rep.grow Grow.refl (fun a z => .inl (w a z)) h
theorem RepL.less (w : ∀ a, W' a → W a) {d : List D} {v : List V} (h : RepL K bx W H d v) : RepL K bx W' H d v := RepL.grow Grow.refl (fun a z => .inl (w a z)) h

theorem RepL.length : ∀ {ds : List D} {vs : List V}, RepL K bx W H ds vs → ds.length = vs.length
  | [], vs, h => by unfold RepL at h; rw [h]; rfl
  | d :: ds, vs, h => by
    unfold RepL at h
    obtain ⟨v, vs', rfl, h1, h2⟩ := h
    simp [RepL.length h2]
theorem RepL.nil : RepL K bx W H [] [] := by unfold RepL; rfl
theorem RepL.cons {d : D} {ds : List D} {v : V} {vs : List V} (h : Rep K bx W H d v) (h2 : RepL K bx W H ds vs) : RepL K bx W H (d :: ds) (v :: vs) := by
  unfold RepL; exact ⟨v, vs, rfl, h, h2⟩
theorem RepL.uncons {d : D} {ds : List D} {xs : List V} (h : RepL K bx W H (d :: ds) xs) : ∃ v vs, xs = v :: vs ∧ Rep K bx W H d v ∧ RepL K bx W H ds vs := by
  unfold RepL at h; exact h
theorem RepL.unnil {xs : List V} (h : RepL K bx W H [] xs) : xs = [] := by unfold RepL at h; exact h
theorem RepL.get : ∀ {ds : List D} {vs : List V} {i : Nat} {d : D}, RepL K bx W H ds vs → ds[i]? = some d → ∃ v, vs[i]? = some v ∧ Rep K bx W H d v
  | [], _, i, d, h, e => by simp at e
  | d' :: ds, vs, 0, d, h, e => by
    obtain ⟨v, vs', rfl, h1, h2⟩ := h.uncons
    simp at e; subst e
    exact ⟨v, rfl, h1⟩
  | d' :: ds, vs, i + 1, d, h, e => by
    obtain ⟨v, vs', rfl, h1, h2⟩ := h.uncons
    obtain ⟨u, e1, e2⟩ := RepL.get h2 (by simpa using e)
    exact ⟨u, by simpa using e1, e2⟩
theorem RepL.getV : ∀ {ds : List D} {vs : List V} {i : Nat} {v : V}, RepL K bx W H ds vs → vs[i]? = some v → ∃ d, ds[i]? = some d ∧ Rep K bx W H d v
  | [], vs, i, v, h, e => by rw [h.unnil] at e; simp at e
  | d' :: ds, vs, 0, v, h, e => by
    obtain ⟨v', vs', rfl, h1, h2⟩ := h.uncons
    simp at e; subst e
    exact ⟨d', rfl, h1⟩
  | d' :: ds, vs, i + 1, v, h, e => by
    obtain ⟨v', vs', rfl, h1, h2⟩ := h.uncons
    obtain ⟨u, e1, e2⟩ := RepL.getV h2 (by simpa using e)
    exact ⟨u, by simpa using e1, e2⟩
theorem RepL.append : ∀ {ds es : List D} {vs us : List V}, RepL K bx W H ds vs → RepL K bx W H es us → RepL K bx W H (ds ++ es) (vs ++ us)
  | [], es, vs, us, h, h2 => by rw [h.unnil]; exact h2
  | d :: ds, es, vs, us, h, h2 => by
    obtain ⟨v, vs', rfl, h3, h4⟩ := h.uncons
    exact .cons h3 (RepL.append h4 h2)
theorem RepL.drop : ∀ {ds : List D} {vs : List V} (n : Nat), RepL K bx W H ds vs → RepL K bx W H (ds.drop n) (vs.drop n)
  | ds, vs, 0, h => by simpa using h
  | [], vs, n + 1, h => by rw [h.unnil]; simpa using RepL.nil
  | d :: ds, vs, n + 1, h => by
    obtain ⟨v, vs', rfl, h3, h4⟩ := h.uncons
    simpa using RepL.drop n h4
theorem RepL.take : ∀ {ds : List D} {vs : List V} (n : Nat), RepL K bx W H ds vs → RepL K bx W H (ds.take n) (vs.take n)
  | ds, vs, 0, h => by simpa using RepL.nil
  | [], vs, n + 1, h => by rw [h.unnil]; simpa using RepL.nil
  | d :: ds, vs, n + 1, h => by
    obtain ⟨v, vs', rfl, h3, h4⟩ := h.uncons
    simpa using RepL.cons h3 (RepL.take n h4)
theorem RepL.set : ∀ {ds : List D} {vs : List V} (i : Nat) {d : D} {v : V}, RepL K bx W H ds vs → Rep K bx W H d v → RepL K bx W H (ds.set i d) (vs.set i v)
  | [], vs, i, d, v, h, h2 => by rw [h.unnil]; simpa using RepL.nil
  | d' :: ds, vs, 0, d, v, h, h2 => by
    obtain ⟨v', vs', rfl, h3, h4⟩ := h.uncons
    simpa using RepL.cons h2 h4
  | d' :: ds, vs, i + 1, d, v, h, h2 => by
    obtain ⟨v', vs', rfl, h3, h4⟩ := h.uncons
    simpa using RepL.cons h3 (RepL.set i h4 h2)
theorem RepL.eraseIdx : ∀ {ds : List D} {vs : List V} (i : Nat), RepL K bx W H ds vs → RepL K bx W H (ds.eraseIdx i) (vs.eraseIdx i)
  | [], vs, i, h => by rw [h.unnil]; simpa using RepL.nil
  | d' :: ds, vs, 0, h => by
    obtain ⟨v', vs', rfl, h3, h4⟩ := h.uncons
    simpa using h4
  | d' :: ds, vs, i + 1, h => by
    obtain ⟨v', vs', rfl, h3, h4⟩ := h.uncons
    simpa using RepL.cons h3 (RepL.eraseIdx i h4)
theorem RepL.dropLast : ∀ {ds : List D} {vs : List V}, RepL K bx W H ds vs → RepL K bx W H ds.dropLast vs.dropLast := fun {ds vs} h => by
  rw [List.dropLast_eq_take, List.dropLast_eq_take, h.length]
  exact h.take _
theorem RepL.reverse : ∀ {ds : List D} {vs : List V}, RepL K bx W H ds vs → RepL K bx W H ds.reverse vs.reverse
  | [], vs, h => by rw [h.unnil]; simpa using RepL.nil
  | d :: ds, vs, h => by
    obtain ⟨v, vs', rfl, h3, h4⟩ := h.uncons
    simpa using RepL.append (RepL.reverse h4) (.cons h3 .nil)
theorem RepL.ints : ∀ (ns : List Int), RepL K bx W H (ns.map D.int) (ns.map V.int)
  | [] => RepL.nil
  | n :: ns => .cons (by unfold Rep; rfl) (RepL.ints ns)
theorem RepL.unints : ∀ {ns : List Int} {vs : List V}, RepL K bx W H (ns.map D.int) vs → vs = ns.map V.int
  | [], vs, h => h.unnil
  | n :: ns, vs, h => by
    obtain ⟨v, vs', rfl, h3, h4⟩ := h.uncons
    unfold Rep at h3
    rw [h3, RepL.unints h4]; rfl
end
end L2.Pd
set_option maxHeartbeats 4000000
namespace L2.Pd
open PySem PySem.Spec PyProof.Rows

structure S where
  env : List (Option (D × Bool))
  st : List (List Int)
structure Exn where
  cls : Str
  ns : List Str
  ds : List D
inductive R (α : Type) where
  | ok (a : α) (s : S)
  | ex (e : Exn) (s : S)
  | no
def M (α : Type) : Type := S → R α
@[simp] def M.pure {α : Type} (a : α) : M α := fun s => .ok a s
def M.bind {α β : Type} (m : M α) (f : α → M β) : M β := fun s => match m s with
  | .ok a s' => f a s'
  | .ex e s' => .ex e s'
  | .no => .no
instance : Monad M where
  pure := M.pure
  bind := M.bind
@[simp] theorem pure_run {α : Type} (a : α) (s : S) : (pure a : M α) s = .ok a s := rfl
theorem bind_run {α β : Type} (m : M α) (f : α → M β) (s : S) : (m >>= f) s = match m s with
  | .ok a s' => f a s'
  | .ex e s' => .ex e s'
  | .no => .no := rfl
theorem bind_ok {α β : Type} {m : M α} {f : α → M β} {s s' : S} {b : β} (h : (m >>= f) s = .ok b s') : ∃ a s1, m s = .ok a s1 ∧ f a s1 = .ok b s' := by
  rw [bind_run] at h
  cases q : m s with
  | ok a s1 => rw [q] at h; exact ⟨a, s1, rfl, h⟩
  | ex e s1 => rw [q] at h; cases h
  | no => rw [q] at h; cases h

/-- the frame at its entry: lists that callers own, the heap, the boxes -/
structure Fm where
  W0 : Wd
  H0 : Hp
  b0 : Bxs
def Own (s : S) (σ : St) : Wd := fun a => ∃ (i : Nat) (d : D), s.env[i]? = some (some (d, true)) ∧ σ[i]? = some (some (V.ref a))
def Wf (F : Fm) (s : S) (σ : St) (T : List Addr) : Wd := fun a => F.W0 a ∨ Own s σ a ∨ a ∈ T
structure Boxes (K : PySem.W.Frag) (bx : Bxs) (st : List (List Int)) (H : Hp) : Prop where
  len : st.length = bx.length
  nd : bx.Nodup
  at_ : ∀ (n : Nat) (a : Addr), bx[n]? = some a → ∃ ns : List Int, st[n]? = some ns ∧ H a = some (.lst (ns.map V.int))
  tb : LamX.Tabs (tabsL K) H
theorem Boxes.some {K : PySem.W.Frag} {bx : Bxs} {st : List (List Int)} {H : Hp} (B : Boxes K bx st H) {a : Addr} (h : a ∈ bx) : H a ≠ none := by
  obtain ⟨n, e⟩ := List.mem_iff_getElem?.mp h
  obtain ⟨ns, _, q⟩ := B.at_ n a e
  rw [q]; exact fun z => nomatch z

/-- T: lists that were just made and that nothing else holds -/
structure Rel (K : PySem.W.Frag) (F : Fm) (bx : Bxs) (T : List Addr) (s : S) (σ : St) (H : Hp) : Prop where
  len : s.env.length = σ.length
  w0 : ∀ a, F.W0 a → F.H0 a ≠ none
  wb : ∀ a, a ∈ bx → ¬ F.W0 a
  sh : ∀ (i : Nat) (d : D), s.env[i]? = some (some (d, false)) → ∃ v : V, σ[i]? = some (some v) ∧ Rep K bx (Wf F s σ T) H d v
  ow : ∀ (i : Nat) (d : D), s.env[i]? = some (some (d, true)) → ∃ (a : Addr) (xs : List V) (ds : List D) (o : HO), Hld d ds xs o ∧ σ[i]? = some (some (V.ref a)) ∧ H a = some o ∧ RepL K bx (Wf F s σ T) H ds xs ∧ ¬ F.W0 a ∧ a ∉ T ∧ a ∉ bx ∧ F.H0 a = none
  inj : ∀ (i j : Nat) (d e : D) (a : Addr), s.env[i]? = some (some (d, true)) → s.env[j]? = some (some (e, true)) → σ[i]? = some (some (V.ref a)) → σ[j]? = some (some (V.ref a)) → i = j
  box : Boxes K bx s.st H
  fr : ∀ a o, F.H0 a = some o → a ∉ bx → Sty o (H a)
  tmp : ∀ a ∈ T, ¬ F.W0 a ∧ a ∉ bx ∧ F.H0 a = none ∧ ∃ o, H a = some o ∧ Mut o
  nb : ∀ a ∈ bx, a ∈ F.b0 ∨ F.H0 a = none
  pre : ∀ (n : Nat) (a : Addr), F.b0[n]? = some a → bx[n]? = some a

section
variable {K : PySem.W.Frag} {F : Fm} {bx bx' bx'' : Bxs} {T T' T'' : List Addr} {s s' s'' : S} {σ σ' σ'' : St} {H H' H'' : Hp}

theorem Rel.entry (r : Rel K F bx T s σ H) {a : Addr} (h : F.H0 a ≠ none) : H a ≠ none := by
  by_cases hb : a ∈ bx
  · exact r.box.some hb
  · cases q : F.H0 a with
    | none => exact absurd q h
    | some o => exact (r.fr a o q hb).isSome
theorem Rel.wSome (r : Rel K F bx T s σ H) {a : Addr} (h : Wf F s σ T a) : H a ≠ none := by
  rcases h with h | ⟨i, d, e1, e2⟩ | h
  · exact r.entry (r.w0 a h)
  · obtain ⟨b, xs, ds, o, _, e3, e4, _⟩ := r.ow i d e1
    rw [e2] at e3; cases e3
    rw [e4]; exact fun z => nomatch z
  · obtain ⟨_, _, _, o, e, _⟩ := r.tmp a h
    rw [e]; exact fun z => nomatch z
theorem Rel.entryNone (r : Rel K F bx T s σ H) {a : Addr} (h : H a = none) : F.H0 a = none := by
  cases q : F.H0 a with
  | none => rfl
  | some o => exact absurd h (r.entry (by rw [q]; exact fun z => nomatch z))

/-- a step -/
structure Stp (K : PySem.W.Frag) (F : Fm) (T : List Addr) (bx : Bxs) (s : S) (σ : St) (H : Hp) (bx' : Bxs) (T' : List Addr) (s' : S) (σ' : St) (H' : Hp) : Prop where
  rel : Rel K F bx' T' s' σ' H'
  tr : ∀ d v, Rep K bx (Wf F s σ T) H d v → Rep K bx' (Wf F s' σ' T') H' d v
  tk : ∀ a, H' a = none → H a = none
  pre : ∀ (n : Nat) (a : Addr), bx[n]? = some a → bx'[n]? = some a
  kt : ∀ a ∈ T, ∀ o, H a = some o → H' a = some o
  sub : ∀ a ∈ T, a ∈ T'
theorem Stp.trL (x : Stp K F T bx s σ H bx' T' s' σ' H') : ∀ (ds : List D) (vs : List V), RepL K bx (Wf F s σ T) H ds vs → RepL K bx' (Wf F s' σ' T') H' ds vs
  | [], vs, h => by rw [h.unnil]; exact .nil
  | d :: ds, vs, h => by
    obtain ⟨v, vs', rfl, h1, h2⟩ := h.uncons
    exact .cons (x.tr d v h1) (Stp.trL x ds vs' h2)
theorem Stp.trans (x : Stp K F T bx s σ H bx' T' s' σ' H') (y : Stp K F T' bx' s' σ' H' bx'' T'' s'' σ'' H'') : Stp K F T bx s σ H bx'' T'' s'' σ'' H'' :=
  ⟨y.rel, fun d v h => y.tr d v (x.tr d v h), fun a h => x.tk a (y.tk a h), fun n a h => y.pre n a (x.pre n a h), fun a h o e => y.kt a (x.sub a h) o (x.kt a h o e), fun a h => y.sub a (x.sub a h)⟩
theorem Stp.refl (r : Rel K F bx T s σ H) : Stp K F T bx s σ H bx T s σ H := ⟨r, fun _ _ h => h, fun _ h => h, fun _ _ h => h, fun _ _ _ h => h, fun _ h => h⟩

theorem Wf.sub (h : ∀ a ∈ T', a ∈ T) {a : Addr} (w : Wf F s σ T' a) : Wf F s σ T a := by
  rcases w with w | w | w
  · exact .inl w
  · exact .inr (.inl w)
  · exact .inr (.inr (h a w))

/-- forget temporaries -/
theorem Rel.less (h : ∀ a ∈ T', a ∈ T) (r : Rel K F bx T s σ H) : Rel K F bx T' s σ H where
  len := r.len
  w0 := r.w0
  wb := r.wb
  sh := fun i d e => let ⟨v, e1, q⟩ := r.sh i d e; ⟨v, e1, q.less fun _ => Wf.sub h⟩
  ow := fun i d e => let ⟨a, xs, ds, o, e1, e2, e3, q, h1, h2, h3, h4⟩ := r.ow i d e; ⟨a, xs, ds, o, e1, e2, e3, q.less fun _ => Wf.sub h, h1, (fun z => h2 (h a z)), h3, h4⟩
  inj := r.inj
  box := r.box
  fr := r.fr
  tmp := fun a z => r.tmp a (h a z)
  nb := r.nb
  pre := r.pre
theorem Stp.drop (x : Stp K F T bx s σ H bx' T' s' σ' H') : Stp K F T bx s σ H bx' T s' σ' H' :=
  ⟨x.rel.less x.sub, fun d v h => (x.tr d v h).less fun _ => Wf.sub x.sub, x.tk, x.pre, x.kt, fun _ h => h⟩

/-- the heap grows; new lists may become temporaries -/
theorem Rel.grow (r : Rel K F bx T s σ H) (g : Grow H H') (t : ∀ a ∈ T', a ∈ T ∨ (H a = none ∧ ∃ o, H' a = some o ∧ Mut o)) : Rel K F bx T' s σ H' := by
  have wf : ∀ a, Wf F s σ T' a → Wf F s σ T a ∨ H a = none := by
    intro a z
    rcases z with z | z | z
    · exact .inl (.inl z)
    · exact .inl (.inr (.inl z))
    · rcases t a z with z | z
      · exact .inl (.inr (.inr z))
      · exact .inr z.1
  refine ⟨r.len, r.w0, r.wb, fun i d e => ?_, fun i d e => ?_, r.inj, ⟨r.box.len, r.box.nd, fun n a e => let ⟨ns, e1, e2⟩ := r.box.at_ n a e; ⟨ns, e1, g _ _ e2⟩, r.box.tb.ext g⟩, fun a o e hb => (r.fr a o e hb).trans fun u h => .inl (g _ _ h), fun a e => ?_, r.nb, r.pre⟩
  · obtain ⟨v, e1, h⟩ := r.sh i d e
    exact ⟨v, e1, h.grow g wf⟩
  · obtain ⟨a, xs, ds, o, e1, e2, e3, h, h1, h2, h3, h4⟩ := r.ow i d e
    refine ⟨a, xs, ds, o, e1, e2, g _ _ e3, h.grow g wf, h1, fun z => ?_, h3, h4⟩
    rcases t a z with z | z
    · exact h2 z
    · rw [z.1] at e3; cases e3
  · rcases t a e with z | ⟨h1, h2⟩
    · obtain ⟨q1, q2, q3, o, q4, q5⟩ := r.tmp a z
      exact ⟨q1, q2, q3, o, g _ _ q4, q5⟩
    · exact ⟨fun z => r.entry (r.w0 a z) h1, fun z => r.box.some z h1, r.entryNone h1, h2⟩
theorem Stp.grow (r : Rel K F bx T s σ H) (g : Grow H H') (t : ∀ a ∈ T', a ∈ T ∨ (H a = none ∧ ∃ o, H' a = some o ∧ Mut o)) (u : ∀ a ∈ T, a ∈ T') : Stp K F T bx s σ H bx T' s σ H' :=
  ⟨r.grow g t, fun d v h => h.grow g fun a z => by
    rcases z with z | z | z
    · exact .inl (.inl z)
    · exact .inl (.inr (.inl z))
    · rcases t a z with z | z
      · exact .inl (.inr (.inr z))
      · exact .inr z.1, fun a h => g.none h, fun _ _ h => h, fun a _ o e => g a o e, u⟩
end

/-- v is the datum of t; a fresh list is a temporary -/
def tmpOf (t : D × Bool) (v : V) (T : List Addr) : List Addr := match t.2, v with
  | true, .ref a => a :: T
  | _, _ => T
theorem tmpOf.sub {t : D × Bool} {v : V} {T : List Addr} : ∀ a ∈ T, a ∈ tmpOf t v T := fun a h => by
  unfold tmpOf
  split
  · exact List.mem_cons_of_mem _ h
  · exact h
def Res (K : PySem.W.Frag) (F : Fm) (T : List Addr) (bx : Bxs) (s : S) (σ : St) (H : Hp) (t : D × Bool) (v : V) : Prop := match t.2 with
  | true => ∃ (a : Addr) (xs : List V) (ds : List D) (o : HO), Hld t.1 ds xs o ∧ v = .ref a ∧ H a = some o ∧ RepL K bx (Wf F s σ (a :: T)) H ds xs ∧ ¬ Own s σ a ∧ a ∉ T
  | false => Rep K bx (Wf F s σ T) H t.1 v

def rdT (K : PySem.W.Frag) (m : M (D × Bool)) : TE := fun σ H Q => ∃ F T bx s, Rel K F bx T s σ H ∧ ∃ t s', m s = .ok t s' ∧
  ∀ v bx' H', Stp K F T bx s σ H bx' (tmpOf t v T) s' σ H' → Res K F T bx' s' σ H' t v → Q v H'
def rdD (K : PySem.W.Frag) (m : M D) : TE := fun σ H Q => ∃ F T bx s, Rel K F bx T s σ H ∧ ∃ d s', m s = .ok d s' ∧
  ∀ v bx' H', Stp K F T bx s σ H bx' T s' σ H' → Rep K bx' (Wf F s' σ T) H' d v → Q v H'
def rdA (K : PySem.W.Frag) (m : M (List D)) : TA := fun σ H Q => ∃ F T bx s, Rel K F bx T s σ H ∧ ∃ ds s', m s = .ok ds s' ∧
  ∀ vs bx' H', Stp K F T bx s σ H bx' T s' σ H' → RepL K bx' (Wf F s' σ T) H' ds vs → Q vs H'
def rdB (K : PySem.W.Frag) (m : M Bool) : TT := fun σ H Q => ∃ F T bx s, Rel K F bx T s σ H ∧ ∃ b s', m s = .ok b s' ∧
  ∀ bx' H', Stp K F T bx s σ H bx' T s' σ H' → Q b H'
def SE (X : Cx) (e : Expr) (m : M (D × Bool)) : Prop := PE X e (rdT X.K m)
def SD (X : Cx) (e : Expr) (m : M D) : Prop := PE X e (rdD X.K m)
def SA (X : Cx) (es : List Expr) (m : M (List D)) : Prop := PA X es (rdA X.K m)
def SB (X : Cx) (e : Expr) (m : M Bool) : Prop := PT X e (rdB X.K m)

theorem PE.weak {X : Cx} {e : Expr} {t t' : TE} (h : PE X e t) (w : ∀ σ H Q, t' σ H Q → t σ H Q) : PE X e t' := ⟨fun pins s σ H Q I q => h.run pins s σ H Q I (w _ _ _ q)⟩
theorem PT.weak {X : Cx} {e : Expr} {t t' : TT} (h : PT X e t) (w : ∀ σ H Q, t' σ H Q → t σ H Q) : PT X e t' := ⟨fun pins s σ H Q I q => h.run pins s σ H Q I (w _ _ _ q)⟩
theorem PA.weak {X : Cx} {e : List Expr} {t t' : TA} (h : PA X e t) (w : ∀ σ H Q, t' σ H Q → t σ H Q) : PA X e t' := ⟨fun pos pins s σ H Q I q => h.run pos pins s σ H Q I (w _ _ _ q)⟩
theorem PS.weak {X : Cx} {e : Stmt} {t t' : TS} (h : PS X e t) (w : ∀ D σ H, t' D σ H → t D σ H) : PS X e t' := ⟨fun pins s σ H D I q => h.run pins s σ H D I (w _ _ _ q)⟩
theorem PSs.weak {X : Cx} {e : List Stmt} {t t' : TS} (h : PSs X e t) (w : ∀ D σ H, t' D σ H → t D σ H) : PSs X e t' := ⟨fun pins s σ H D I q => h.run pins s σ H D I (w _ _ _ q)⟩

section
variable {K : PySem.W.Frag} {F : Fm} {T : List Addr} {bx bx' : Bxs} {s s' : S} {σ : St} {H H' : Hp} {t : D × Bool} {v : V}
/-- an owned one is a datum for all who don't own it -/
theorem Rep.own {W : Wd} {d : D} {ds : List D} {xs : List V} {o : HO} {a : Addr} (e1 : Hld d ds xs o) (e3 : H a = some o) (nw : ¬ W a) (h2 : a ∉ bx) (hh : RepL K bx W H ds xs) : Rep K bx W H d (.ref a) := by
  rcases e1 with ⟨rfl, rfl⟩ | ⟨ks, rfl, hl, rfl⟩
  · unfold Rep
    exact ⟨a, xs, rfl, .inl ⟨.inl e3, nw, h2⟩, hh⟩
  · unfold Rep
    exact ⟨a, xs, rfl, hl, .inl e3, nw, h2, hh⟩
/-- any result is a datum -/
theorem Res.rep (x : Stp K F T bx s σ H bx' (tmpOf t v T) s' σ H') (r : Res K F T bx' s' σ H' t v) : Rep K bx' (Wf F s' σ T) H' t.1 v := by
  obtain ⟨d, fr⟩ := t
  cases fr with
  | false => exact r
  | true =>
    obtain ⟨a, xs, ds, o, e1, e2, e3, h, hn, hT⟩ := r
    obtain ⟨h1, h2, h3, _⟩ := x.rel.tmp a (by rw [e2]; exact List.mem_cons_self)
    subst e2
    have nw : ¬ Wf F s' σ T a := fun z => by
      rcases z with z | z | z
      · exact h1 z
      · exact hn z
      · exact hT z
    have hh := h.less (W' := Wf F s' σ T) fun _ => Wf.sub fun _ => List.mem_cons_of_mem _
    exact Rep.own e1 e3 nw h2 hh
end
theorem rdT.d {K : PySem.W.Frag} {m : M (D × Bool)} {σ : St} {H : Hp} {Q : VK} (h : rdD K (do let t ← m; pure t.1) σ H Q) : rdT K m σ H Q := by
  obtain ⟨F, T, bx, s, r, d, s', e, k⟩ := h
  obtain ⟨t, s1, e1, e2⟩ := bind_ok e
  cases e2
  exact ⟨F, T, bx, s, r, t, _, e1, fun v bx' H' x q => k v bx' H' x.drop (q.rep x)⟩
theorem SE.d {X : Cx} {e : Expr} {m : M (D × Bool)} (h : SE X e m) : SD X e (do let t ← m; pure t.1) := PE.weak h fun _ _ _ q => rdT.d q
end L2.Pd
set_option maxHeartbeats 4000000
namespace L2.Pd
open PySem PySem.Spec PyProof.Rows

def ResN (K : PySem.W.Frag) (bx : Bxs) (W : Wd) (H H' : Hp) (t : D × Bool) (v : V) : Prop := match t.2 with
  | true => ∃ (a : Addr) (xs : List V) (ds : List D) (o : HO), Hld t.1 ds xs o ∧ v = .ref a ∧ H a = none ∧ H' a = some o ∧ RepL K bx (fun b => W b ∨ b = a) H' ds xs
  | false => Rep K bx W H' t.1 v
def Pu (K : PySem.W.Frag) (f : List D → Option (D × Bool)) (vs : List V) (H : Hp) (Q : VK) : Prop :=
  ∃ (bx : Bxs) (W : Wd) (ds : List D) (t : D × Bool), RepL K bx W H ds vs ∧ f ds = some t ∧ ∀ v H', Grow H H' → ResN K bx W H H' t v → Q v H'
section
variable {K : PySem.W.Frag} {F : Fm} {T : List Addr} {bx : Bxs} {s : S} {σ : St} {H H' : Hp} {W : Wd} {t : D × Bool} {v : V} {vs : List V} {ds : List D} {f : List D → Option (D × Bool)} {Q : VK}
theorem ResN.res (r : Rel K F bx T s σ H) (g : Grow H H') (q : ResN K bx (Wf F s σ T) H H' t v) : Stp K F T bx s σ H bx (tmpOf t v T) s σ H' ∧ Res K F T bx s σ H' t v := by
  obtain ⟨d, fr⟩ := t
  cases fr with
  | false => exact ⟨Stp.grow r g (fun a z => .inl z) (fun _ h => h), q⟩
  | true =>
    obtain ⟨a, xs, ds, o, e1, e2, e3, e4, h⟩ := q
    have e2 : v = .ref a := e2
    subst e2
    refine ⟨Stp.grow r g (fun b z => ?_) tmpOf.sub, a, xs, ds, o, e1, rfl, e4, h.less fun b z => ?_, fun z => ?_, fun z => ?_⟩
    · rcases List.mem_cons.mp (show b ∈ a :: T from z) with rfl | z
      · exact .inr ⟨e3, o, e4, e1.mut⟩
      · exact .inl z
    · rcases z with z | z | z
      · exact .inl (.inl z)
      · exact .inl (.inr (.inl z))
      · rcases List.mem_cons.mp z with z | z
        · exact .inr z
        · exact .inl (.inr (.inr z))
    · exact (r.wSome (a := a) (.inr (.inl z))) e3
    · exact (r.wSome (a := a) (.inr (.inr z))) e3
theorem Pu.of (r : Rel K F bx T s σ H) (h : RepL K bx (Wf F s σ T) H ds vs) (e : f ds = some t)
    (k : ∀ v H', Stp K F T bx s σ H bx (tmpOf t v T) s σ H' → Res K F T bx s σ H' t v → Q v H') : Pu K f vs H Q :=
  ⟨bx, Wf F s σ T, ds, t, h, e, fun v H' g q => k v H' (ResN.res r g q).1 (ResN.res r g q).2⟩
theorem ResN.old {d : D} (h : Rep K bx W H d v) : ResN K bx W H H (d, false) v := h
theorem RepL.one {x : V} (h : RepL K bx W H ds [x]) : ∃ d, ds = [d] ∧ Rep K bx W H d x := by
  match ds, h with
  | [], h => exact absurd h.unnil (by simp)
  | [d], h =>
    obtain ⟨v, vs, e, h1, h2⟩ := h.uncons
    cases e
    exact ⟨d, rfl, h1⟩
  | d :: e :: r, h =>
    have := h.length
    simp at this
theorem RepL.two {x y : V} (h : RepL K bx W H ds [x, y]) : ∃ d e, ds = [d, e] ∧ Rep K bx W H d x ∧ Rep K bx W H e y := by
  match ds, h with
  | [], h => exact absurd h.unnil (by simp)
  | d :: r, h =>
    obtain ⟨v, vs, e, h1, h2⟩ := h.uncons
    cases e
    obtain ⟨e, rfl, h3⟩ := h2.one
    exact ⟨d, e, rfl, h1, h3⟩
theorem Rep.int {i : Int} (h : Rep K bx W H (.int i) v) : v = .int i := by unfold Rep at h; exact h
theorem Rep.bl {i : Bool} (h : Rep K bx W H (.bl i) v) : v = .bl i := by unfold Rep at h; exact h
theorem Rep.non (h : Rep K bx W H .non v) : v = .non := by unfold Rep at h; exact h
theorem Rep.str {i : Str} (h : Rep K bx W H (.str i) v) : v = .str i := by unfold Rep at h; exact h
theorem Rep.ty {i : String} (h : Rep K bx W H (.ty i) v) : v = .ty i := by unfold Rep at h; exact h
theorem Rep.mint {i : Int} : Rep K bx W H (.int i) (.int i) := by unfold Rep; rfl
theorem Rep.mbl {i : Bool} : Rep K bx W H (.bl i) (.bl i) := by unfold Rep; rfl
theorem Rep.mnon : Rep K bx W H .non .non := by unfold Rep; rfl
theorem Rep.mstr {i : Str} : Rep K bx W H (.str i) (.str i) := by unfold Rep; rfl
theorem Rep.mty {i : String} : Rep K bx W H (.ty i) (.ty i) := by unfold Rep; rfl
theorem Rep.lst (h : Rep K bx W H (.lst ds) v) : ∃ a xs, v = .ref a ∧ SqL K H a xs ∧ RepL K bx W H ds xs := by
  unfold Rep at h
  obtain ⟨a, xs, e, h1, h2⟩ := h
  exact ⟨a, xs, e, h1.elim (fun z => .inl z.1) .inr, h2⟩
theorem Rep.tup (h : Rep K bx W H (.tup ds) v) : ∃ a xs, v = .ref a ∧ SqT K H a xs ∧ RepL K bx W H ds xs := by
  unfold Rep at h
  exact h
theorem Rep.mtup {a : Addr} {xs : List V} (h1 : SqT K H a xs) (h : RepL K bx W H ds xs) : Rep K bx W H (.tup ds) (.ref a) := by
  unfold Rep
  exact ⟨a, xs, rfl, h1, h⟩
/-- a new list -/
theorem ResN.newL {a : Addr} {xs : List V} (h : H a = none) (r : RepL K bx W H ds xs) : ResN K bx W H (upd H a (.lst xs)) (.lst ds, true) (.ref a) :=
  ⟨a, xs, ds, _, .inl ⟨rfl, rfl⟩, rfl, h, upd_same, r.grow (Grow.new h) fun b z => z.elim .inl fun e => .inr (e ▸ h)⟩
/-- a new tuple -/
theorem ResN.newT {a : Addr} {xs : List V} (h : H a = none) (r : RepL K bx W H ds xs) : ResN K bx W H (upd H a (.tup xs)) (.tup ds, false) (.ref a) :=
  Rep.mtup (.of upd_same) (r.grow (Grow.new h) fun b z => .inl z)
end

mutual
def D.py : D → Option PyData
  | .non => some .none
  | .bl b => some (.bool b)
  | .int i => some (.int i)
  | .str x => some (.str x)
  | .ty _ => none
  | .tup ds => (D.pyL ds).map .tuple
  | .lst ds => (D.pyL ds).map .list
  | .box _ => none
  | .dct .. => none
  | .glo _ => none
  | .exc .. => none
def D.pyL : List D → Option (List PyData)
  | [] => some []
  | d :: ds => match D.py d, D.pyL ds with
    | some p, some ps => some (p :: ps)
    | _, _ => none
end
section
variable {K : PySem.W.Frag} {bx : Bxs} {W : Wd} {H : Hp}
mutual
theorem Rep.dp : ∀ (d : D) (v : V) (p : PyData), Rep K bx W H d v → d.py = some p → Dp K H v p
  | .non, v, p, h, e => by rw [h.non]; simp only [D.py, Option.some.injEq] at e; subst e; exact .non
  | .bl b, v, p, h, e => by rw [h.bl]; simp only [D.py, Option.some.injEq] at e; subst e; exact .bl b
  | .int b, v, p, h, e => by rw [h.int]; simp only [D.py, Option.some.injEq] at e; subst e; exact .int b
  | .str b, v, p, h, e => by rw [h.str]; simp only [D.py, Option.some.injEq] at e; subst e; exact .str b
  | .ty b, v, p, h, e => by simp only [D.py] at e; cases e
  | .box b, v, p, h, e => by simp only [D.py] at e; cases e
  | .dct .., v, p, h, e => by simp only [D.py] at e; cases e
  | .glo _, v, p, h, e => by simp only [D.py] at e; cases e
  | .exc .., v, p, h, e => by simp only [D.py] at e; cases e
  | .tup ds, v, p, h, e => by
    obtain ⟨a, xs, rfl, h1, h2⟩ := h.tup
    simp only [D.py, Option.map_eq_some_iff] at e
    obtain ⟨ps, e1, rfl⟩ := e
    exact .tup h1 (RepL.dp ds xs ps h2 e1)
  | .lst ds, v, p, h, e => by
    obtain ⟨a, xs, rfl, h1, h2⟩ := h.lst
    simp only [D.py, Option.map_eq_some_iff] at e
    obtain ⟨ps, e1, rfl⟩ := e
    exact .lst h1 (RepL.dp ds xs ps h2 e1)
theorem RepL.dp : ∀ (ds : List D) (vs : List V) (ps : List PyData), RepL K bx W H ds vs → D.pyL ds = some ps → DpAll K H vs ps
  | [], vs, ps, h, e => by rw [h.unnil]; simp only [D.pyL, Option.some.injEq] at e; subst e; exact .nil
  | d :: ds, vs, ps, h, e => by
    obtain ⟨v, vs', rfl, h1, h2⟩ := h.uncons
    simp only [D.pyL] at e
    split at e
    · rename_i p ps' q1 q2
      cases e
      exact .cons (Rep.dp d v p h1 q1) (RepL.dp ds vs' ps' h2 q2)
    · cases e
end
end

def addD : List D → Option (D × Bool)
  | [.int i, .int j] => some (.int (i + j), false)
  | [.lst a, .lst b] => if a.length + b.length ≤ sizeLine then some (.lst (a ++ b), true) else none
  | [.tup a, .tup b] => if a.length + b.length ≤ sizeLine then some (.tup (a ++ b), false) else none
  | [.str a, .str b] => if a.length + b.length ≤ sizeLine then some (.str (a ++ b), false) else none
  | _ => none
def subD : List D → Option (D × Bool)
  | [.int i, .int j] => some (.int (i - j), false)
  | _ => none
/-- products below a million bits, or with a factor of 64 bits -/
def okMul (i j : Int) : Prop := CMul i j ∨ CMulW i j
open Classical in
noncomputable def mulD : List D → Option (D × Bool)
  | [.int i, .int j] => if okMul i j then some (.int (i * j), false) else none
  | _ => none
def okDiv (j : Int) : Prop := CDivW 0 j
open Classical in
noncomputable def divD : List D → Option (D × Bool)
  | [.int i, .int j] => if okDiv j then some (.int (i / j), false) else none
  | _ => none
def modD : List D → Option (D × Bool)
  | [.int i, .int j] => if 0 < j then some (.int (i % j), false) else none
  | _ => none
def okPow (i j : Int) : Prop := CPow i j
open Classical in
noncomputable def powD : List D → Option (D × Bool)
  | [.int i, .int j] => if okPow i j then some (.int (i ^ j.toNat), false) else none
  | _ => none
def ltD : List D → Option (D × Bool)
  | [.int i, .int j] => some (.bl (decide (i < j)), false)
  | _ => none
def leD : List D → Option (D × Bool)
  | [.int i, .int j] => some (.bl (decide (i ≤ j)), false)
  | _ => none
def gtD : List D → Option (D × Bool)
  | [.int i, .int j] => some (.bl (decide (j < i)), false)
  | _ => none
def geD : List D → Option (D × Bool)
  | [.int i, .int j] => some (.bl (decide (j ≤ i)), false)
  | _ => none
def pyShaped (p : PyData) : Bool := SeqAt.shaped p
def eqD : List D → Option (D × Bool)
  | [.str x, .str y] => some (.bl (decide (x = y)), false)
  | [x, y] => match x.py, y.py with
    | some p, some q => if pyShaped p && pyShaped q then some (.bl (PyData.eqv p q), false) else none
    | _, _ => none
  | _ => none
def neD : List D → Option (D × Bool)
  | [.str x, .str y] => some (.bl (!decide (x = y)), false)
  | [x, y] => match x.py, y.py with
    | some p, some q => if pyShaped p && pyShaped q then some (.bl (!PyData.eqv p q), false) else none
    | _, _ => none
  | _ => none
def negD : List D → Option (D × Bool)
  | [.int i] => some (.int (-i), false)
  | _ => none
def inD : List D → Option (D × Bool)
  | [x, .lst ys] => match x.py, D.pyL ys with
    | some p, some qs => if pyShaped p && pyShaped (.list qs) then some (.bl (qs.any fun z => PyData.eqv z p), false) else none
    | _, _ => none
  | [x, .tup ys] => match x.py, D.pyL ys with
    | some p, some qs => if pyShaped p && pyShaped (.tuple qs) then some (.bl (qs.any fun z => PyData.eqv z p), false) else none
    | _, _ => none
  | _ => none
def notInD : List D → Option (D × Bool)
  | [x, .lst ys] => match x.py, D.pyL ys with
    | some p, some qs => if pyShaped p && pyShaped (.list qs) then some (.bl (!qs.any fun z => PyData.eqv z p), false) else none
    | _, _ => none
  | [x, .tup ys] => match x.py, D.pyL ys with
    | some p, some qs => if pyShaped p && pyShaped (.tuple qs) then some (.bl (!qs.any fun z => PyData.eqv z p), false) else none
    | _, _ => none
  | _ => none
def isNonD : D → Bool
  | .non => true
  | _ => false

abbrev P2 (K : PySem.W.Frag) (f : List D → Option (D × Bool)) : R2 := fun x y H Q => Pu K f [x, y] H Q
section
variable {X : Cx}
theorem opA_cat : OpR X (binaryOp .Add) (fun x y H Q => ∃ l b xs zs, x = .ref l ∧ y = .ref b ∧ SqL X.K H l xs ∧ SqL X.K H b zs ∧ xs.length + zs.length ≤ sizeLine ∧ ∀ p, H p = none → Q (.ref p) (upd H p (.lst (xs ++ zs)))) := by
  rintro pins s σ H _ _ v w Q I rx ry ⟨l, b, xs, zs, rfl, rfl, left, right, room, k⟩
  obtain rfl : v = .ref l := rx
  obtain rfl : w = .ref b := ry
  obtain ⟨us, ru, ⟨⟨_, _, _, sl⟩, n, at1, rfl, rfl, rfl⟩, _⟩ := I.list left
  obtain ⟨ws, rw_, ⟨⟨_, _, _, sl'⟩, m, at2, rfl, rfl, rfl⟩, _⟩ := I.list right
  have both := ru.append rw_
  have many : us.toArray.size + ws.toArray.size ≤ sizeLine := by simpa [← ru.length, ← rw_.length] using room
  refine concat_meets ⟨_, at1, rfl⟩ ⟨_, at2, rfl⟩ noFill_list_add seq_list_add PySem.F.slot_list_add PySem.F.entry_list_add (PySem.F.args_list_add_2 _ _) (list_addW l b us.toArray ws.toArray n m none none sl sl' many) ⟨at1, at2, ?_⟩
  rw [List.append_toArray]
  exact ⟨.ref _, _, I.lnew (t' := s.toks) both (by rw [List.length_append]; exact room), rfl, k _ I.fresh⟩

theorem op_addD : OpR X (binaryOp .Add) (P2 X.K addD) := by
  intro pins s σ H x y v u Q I rx ry h
  obtain ⟨bx, W, ds, t, r, e, k⟩ := h
  obtain ⟨d1, d2, rfl, h1, h2⟩ := r.two
  unfold addD at e
  split at e
  · rename_i i j q
    cases q; cases e
    rw [h1.int] at rx
    rw [h2.int] at ry
    exact op_add pins s σ H _ _ v u Q I rx ry ⟨i, j, rfl, rfl, k _ H Grow.refl (ResN.old Rep.mint)⟩
  · rename_i a b q
    cases q
    split at e
    · cases e
      obtain ⟨l, xs, rfl, q1, q2⟩ := h1.lst
      obtain ⟨l2, ys, rfl, q3, q4⟩ := h2.lst
      have z1 := q2.length
      have z2 := q4.length
      exact opA_cat pins s σ H _ _ v u Q I rx ry ⟨l, l2, xs, ys, rfl, rfl, q1, q3, by omega, fun p hp => k _ _ (Grow.new hp) (ResN.newL hp (q2.append q4))⟩
    · cases e
  · rename_i a b q
    cases q
    split at e
    · rename_i c
      cases e
      obtain ⟨l, xs, rfl, q1, q2⟩ := h1.tup
      obtain ⟨l2, ys, rfl, q3, q4⟩ := h2.tup
      have z1 := q2.length
      have z2 := q4.length
      refine op_catA pins s σ H _ _ v u Q I rx ry ⟨l, l2, xs, ys, rfl, rfl, q1, q3, by omega, fun z => ?_, fun _ z => ?_, fun _ _ p hp => k _ _ (Grow.new hp) (ResN.newT hp (q2.append q4))⟩
      · subst z
        have z3 : a = [] := List.length_eq_zero_iff.mp z1
        subst z3
        exact k _ H Grow.refl (ResN.old (Rep.mtup q3 q4))
      · subst z
        have z3 : b = [] := List.length_eq_zero_iff.mp z2
        subst z3
        refine k _ H Grow.refl (ResN.old ?_)
        rw [List.append_nil]
        exact Rep.mtup q1 q2
    · cases e
  · rename_i a b q
    cases q
    split at e
    · cases e
      rw [h1.str] at rx
      rw [h2.str] at ry
      exact op_add_str pins s σ H _ _ v u Q I rx ry ⟨_, _, rfl, rfl, by assumption, k _ H Grow.refl (ResN.old Rep.mstr)⟩
    · cases e
  · cases e
theorem op_subD : OpR X (binaryOp .Sub) (P2 X.K subD) := by
  intro pins s σ H x y v u Q I rx ry h
  obtain ⟨bx, W, ds, t, r, e, k⟩ := h
  obtain ⟨d1, d2, rfl, h1, h2⟩ := r.two
  unfold subD at e
  split at e
  · rename_i i j q
    cases q; cases e
    rw [h1.int] at rx
    rw [h2.int] at ry
    exact op_sub pins s σ H _ _ v u Q I rx ry ⟨i, j, rfl, rfl, k _ H Grow.refl (ResN.old Rep.mint)⟩
  · cases e
theorem op_mulD : OpR X (binaryOp .Mult) (P2 X.K mulD) := by
  intro pins s σ H x y v u Q I rx ry h
  obtain ⟨bx, W, ds, t, r, e, k⟩ := h
  obtain ⟨d1, d2, rfl, h1, h2⟩ := r.two
  unfold mulD at e
  split at e
  · rename_i i j q
    cases q
    split at e
    · rename_i c
      cases e
      rw [h1.int] at rx
      rw [h2.int] at ry
      rcases c with c | c
      · exact op_mul pins s σ H _ _ v u Q I rx ry ⟨i, j, rfl, rfl, c, k _ H Grow.refl (ResN.old Rep.mint)⟩
      · exact op_mulW pins s σ H _ _ v u Q I rx ry ⟨i, j, rfl, rfl, c, k _ H Grow.refl (ResN.old Rep.mint)⟩
    · cases e
  · cases e
theorem op_divD : OpR X (binaryOp .FloorDiv) (P2 X.K divD) := by
  intro pins s σ H x y v u Q I rx ry h
  obtain ⟨bx, W, ds, t, r, e, k⟩ := h
  obtain ⟨d1, d2, rfl, h1, h2⟩ := r.two
  unfold divD at e
  split at e
  · rename_i i j q
    cases q
    split at e
    · rename_i c
      cases e
      rw [h1.int] at rx
      rw [h2.int] at ry
      exact op_fdivW pins s σ H _ _ v u Q I rx ry ⟨i, j, rfl, rfl, (show CDivW i j from c), k _ H Grow.refl (ResN.old Rep.mint)⟩
    · cases e
  · cases e
theorem op_modD : OpR X (binaryOp .Mod) (P2 X.K modD) := by
  intro pins s σ H x y v u Q I rx ry h
  obtain ⟨bx, W, ds, t, r, e, k⟩ := h
  obtain ⟨d1, d2, rfl, h1, h2⟩ := r.two
  unfold modD at e
  split at e
  · rename_i i j q
    cases q
    split at e
    · rename_i c
      cases e
      rw [h1.int] at rx
      rw [h2.int] at ry
      exact op_mod pins s σ H _ _ v u Q I rx ry ⟨i, j, rfl, rfl, c, k _ H Grow.refl (ResN.old Rep.mint)⟩
    · cases e
  · cases e
theorem op_powD : OpR X (binaryOp .Pow) (P2 X.K powD) := by
  intro pins s σ H x y v u Q I rx ry h
  obtain ⟨bx, W, ds, t, r, e, k⟩ := h
  obtain ⟨d1, d2, rfl, h1, h2⟩ := r.two
  unfold powD at e
  split at e
  · rename_i i j q
    cases q
    split at e
    · rename_i c
      cases e
      rw [h1.int] at rx
      rw [h2.int] at ry
      exact op_pow pins s σ H _ _ v u Q I rx ry ⟨i, j, rfl, rfl, c, k _ H Grow.refl (ResN.old Rep.mint)⟩
    · cases e
  · cases e
theorem cmpI {op : CmpOp} {f : List D → Option (D × Bool)} {p : Int → Int → Bool} (hf : ∀ d e t, f [d, e] = some t → ∃ i j, d = .int i ∧ e = .int j ∧ t = (.bl (p i j), false))
    (rule : ∀ (i j : Int) (t u : Tok) (s : Shared) (Q : Value → Shared → Prop) (E : Value → Shared → Prop), Q (.bool (p i j)) s → wpAny (model X.prog X.w) X.A (compareOp op (.int i t) (.int j u)) Q E s) : OpR X (compareOp op) (P2 X.K f) := by
  intro pins s σ H x y v u Q I rx ry h
  obtain ⟨bx, W, ds, t, r, e, k⟩ := h
  obtain ⟨d1, d2, rfl, h1, h2⟩ := r.two
  obtain ⟨i, j, rfl, rfl, rfl⟩ := hf _ _ _ e
  rw [h1.int] at rx
  rw [h2.int] at ry
  obtain ⟨t, rfl⟩ := rx
  obtain ⟨t', rfl⟩ := ry
  exact rule i j t t' s _ _ ⟨.bl _, H, I, rfl, k _ H Grow.refl (ResN.old Rep.mbl)⟩
theorem op_ltD : OpR X (compareOp .Lt) (P2 X.K ltD) := cmpI (p := fun i j => decide (i < j)) (fun d e t h => by
  unfold ltD at h
  split at h
  · rename_i i j q; cases q; cases h; exact ⟨i, j, rfl, rfl, rfl⟩
  · cases h) fun _ _ _ _ _ _ _ h => lt_int h
theorem op_leD : OpR X (compareOp .LtE) (P2 X.K leD) := cmpI (p := fun i j => decide (i ≤ j)) (fun d e t h => by
  unfold leD at h
  split at h
  · rename_i i j q; cases q; cases h; exact ⟨i, j, rfl, rfl, rfl⟩
  · cases h) fun _ _ _ _ _ _ _ h => le_int h
theorem op_gtD : OpR X (compareOp .Gt) (P2 X.K gtD) := cmpI (p := fun i j => decide (j < i)) (fun d e t h => by
  unfold gtD at h
  split at h
  · rename_i i j q; cases q; cases h; exact ⟨i, j, rfl, rfl, rfl⟩
  · cases h) fun _ _ _ _ _ _ _ h => gt_int h
theorem op_geD : OpR X (compareOp .GtE) (P2 X.K geD) := cmpI (p := fun i j => decide (j ≤ i)) (fun d e t h => by
  unfold geD at h
  split at h
  · rename_i i j q; cases q; cases h; exact ⟨i, j, rfl, rfl, rfl⟩
  · cases h) fun _ _ _ _ _ _ _ h => ge_int h
theorem op_eqDd (hu : X.A.units + 64 < cLine) : OpR X (compareOp .Eq) (P2 X.K eqD) := by
  intro pins s σ H x y v u Q I rx ry h
  obtain ⟨bx, W, ds, t, r, e, k⟩ := h
  obtain ⟨d1, d2, rfl, h1, h2⟩ := r.two
  unfold eqD at e
  split at e
  · rename_i z1 z2 z
    cases z
    cases e
    rw [h1.str] at rx
    rw [h2.str] at ry
    have ed : decide (V.str z1 = V.str z2) = decide (z1 = z2) := by
      rw [Bool.eq_iff_iff]
      simp
    refine op_eq pins s σ H _ _ v u Q I rx ry ⟨rfl, ?_⟩
    rw [ed]
    exact k _ H Grow.refl (ResN.old Rep.mbl)
  · rename_i zq
    cases zq
    split at e
    · rename_i p q e1 e2
      split at e
      · rename_i c
        cases e
        have c' := Bool.and_eq_true_iff.mp c
        exact op_eqD hu pins s σ H _ _ v u Q I rx ry ⟨p, q, Rep.dp _ _ _ h1 e1, Rep.dp _ _ _ h2 e2, c'.1, c'.2, k _ H Grow.refl (ResN.old Rep.mbl)⟩
      · cases e
    · cases e
  · cases e
theorem op_neDd (hu : X.A.units + 64 < cLine) : OpR X (compareOp .NotEq) (P2 X.K neD) := by
  intro pins s σ H x y v u Q I rx ry h
  obtain ⟨bx, W, ds, t, r, e, k⟩ := h
  obtain ⟨d1, d2, rfl, h1, h2⟩ := r.two
  unfold neD at e
  split at e
  · rename_i z1 z2 z
    cases z
    cases e
    rw [h1.str] at rx
    rw [h2.str] at ry
    have ed : decide (V.str z1 = V.str z2) = decide (z1 = z2) := by
      rw [Bool.eq_iff_iff]
      simp
    refine op_ne pins s σ H _ _ v u Q I rx ry ⟨rfl, ?_⟩
    rw [ed]
    exact k _ H Grow.refl (ResN.old Rep.mbl)
  · rename_i zq
    cases zq
    split at e
    · rename_i p q e1 e2
      split at e
      · rename_i c
        cases e
        have c' := Bool.and_eq_true_iff.mp c
        exact op_neD hu pins s σ H _ _ v u Q I rx ry ⟨p, q, Rep.dp _ _ _ h1 e1, Rep.dp _ _ _ h2 e2, c'.1, c'.2, k _ H Grow.refl (ResN.old Rep.mbl)⟩
      · cases e
    · cases e
  · cases e
def rInT (K : PySem.W.Frag) (neg : Bool) : R2 := fun x y H Q => ∃ d ds, Dp K H x d ∧ Dp K H y (.tuple ds) ∧ SeqAt.shaped d = true ∧ SeqAt.shaped (.tuple ds) = true ∧ Q (.bl (if neg then !ds.any fun z => PyData.eqv z d else ds.any fun z => PyData.eqv z d)) H
theorem op_inT (hu : X.A.units + 65 < cLine) : OpR X (compareOp .In) (rInT X.K false) := by
  intro pins s σ H x y v u Q I rx ry h
  obtain ⟨d, ds, hd, he, sd, se, q⟩ := h
  obtain ⟨as, r1⟩ := Dp.reads I d x v hd rx
  obtain ⟨bs, r2⟩ := Dp.reads I (.tuple ds) y u he ry
  exact SeqAt.in_tuple_reads r2 r1 (SeqAt.canLay_of_shaped se) (SeqAt.canLay_of_shaped sd) (room_in_shaped sd hu) ⟨.bl _, H, I, rfl, q⟩
theorem op_notInT (hu : X.A.units + 65 < cLine) : OpR X (compareOp .NotIn) (rInT X.K true) := by
  intro pins s σ H x y v u Q I rx ry h
  obtain ⟨d, ds, hd, he, sd, se, q⟩ := h
  obtain ⟨as, r1⟩ := Dp.reads I d x v hd rx
  obtain ⟨bs, r2⟩ := Dp.reads I (.tuple ds) y u he ry
  exact SeqAt.notIn_tuple_reads r2 r1 (SeqAt.canLay_of_shaped se) (SeqAt.canLay_of_shaped sd) (room_in_shaped sd hu) ⟨.bl _, H, I, rfl, q⟩
theorem op_inDd (hu : X.A.units + 65 < cLine) : OpR X (compareOp .In) (P2 X.K inD) := by
  intro pins s σ H x y v u Q I rx ry h
  obtain ⟨bx, W, ds, t, r, e, k⟩ := h
  obtain ⟨d1, d2, rfl, h1, h2⟩ := r.two
  unfold inD at e
  split at e
  · rename_i x' y' q
    cases q
    split at e
    · rename_i p q e1 e2
      split at e
      · rename_i c
        cases e
        have c' := Bool.and_eq_true_iff.mp c
        exact op_inD hu pins s σ H _ _ v u Q I rx ry ⟨p, q, Rep.dp _ _ _ h1 e1, Rep.dp _ _ _ h2 (by simp [D.py, e2]), c'.1, c'.2, k _ H Grow.refl (ResN.old Rep.mbl)⟩
      · cases e
    · cases e
  · rename_i x' y' q
    cases q
    split at e
    · rename_i p q e1 e2
      split at e
      · rename_i c
        cases e
        have c' := Bool.and_eq_true_iff.mp c
        exact op_inT hu pins s σ H _ _ v u Q I rx ry ⟨p, q, Rep.dp _ _ _ h1 e1, Rep.dp _ _ _ h2 (by simp [D.py, e2]), c'.1, c'.2, k _ H Grow.refl (ResN.old Rep.mbl)⟩
      · cases e
    · cases e
  · cases e
theorem op_notInDd (hu : X.A.units + 65 < cLine) : OpR X (compareOp .NotIn) (P2 X.K notInD) := by
  intro pins s σ H x y v u Q I rx ry h
  obtain ⟨bx, W, ds, t, r, e, k⟩ := h
  obtain ⟨d1, d2, rfl, h1, h2⟩ := r.two
  unfold notInD at e
  split at e
  · rename_i x' y' q
    cases q
    split at e
    · rename_i p q e1 e2
      split at e
      · rename_i c
        cases e
        have c' := Bool.and_eq_true_iff.mp c
        exact op_notInD hu pins s σ H _ _ v u Q I rx ry ⟨p, q, Rep.dp _ _ _ h1 e1, Rep.dp _ _ _ h2 (by simp [D.py, e2]), c'.1, c'.2, k _ H Grow.refl (ResN.old Rep.mbl)⟩
      · cases e
    · cases e
  · rename_i x' y' q
    cases q
    split at e
    · rename_i p q e1 e2
      split at e
      · rename_i c
        cases e
        have c' := Bool.and_eq_true_iff.mp c
        exact op_notInT hu pins s σ H _ _ v u Q I rx ry ⟨p, q, Rep.dp _ _ _ h1 e1, Rep.dp _ _ _ h2 (by simp [D.py, e2]), c'.1, c'.2, k _ H Grow.refl (ResN.old Rep.mbl)⟩
      · cases e
    · cases e
  · cases e
theorem un_negD : UnR X (unaryOp .USub) (fun x H Q => Pu X.K negD [x] H Q) := by
  intro pins s σ H x v Q I rx h
  obtain ⟨bx, W, ds, t, r, e, k⟩ := h
  obtain ⟨d1, rfl, h1⟩ := r.one
  unfold negD at e
  split at e
  · rename_i i q
    cases q; cases e
    rw [h1.int] at rx
    exact un_neg pins s σ H _ v Q I rx ⟨i, rfl, k _ H Grow.refl (ResN.old Rep.mint)⟩
  · cases e
end
end L2.Pd
set_option maxHeartbeats 4000000
namespace L2.Pd
open PySem PySem.Spec PyProof.Rows

abbrev DB := D × Bool
def lift {α : Type} (o : Option α) : M α := fun s => match o with
  | some a => .ok a s
  | none => .no
@[simp] theorem lift_some {α : Type} (a : α) (s : S) : (lift (some a) : M α) s = .ok a s := rfl
@[simp] theorem lift_none {α : Type} (s : S) : (lift none : M α) s = .no := rfl
theorem lift_ok {α : Type} {o : Option α} {a : α} {s s' : S} (h : lift o s = .ok a s') : o = some a ∧ s' = s := by
  cases o with
  | none => cases h
  | some b => cases h; exact ⟨rfl, rfl⟩

def cst (d : D) : M DB := pure (d, false)
/-- a name: an owned list is shared from now on -/
def var (i : Nat) : M DB := fun s => match s.env[i]? with
  | some (some (d, false)) => .ok (d, false) s
  | some (some (d, true)) => .ok (d, false) { s with env := s.env.set i (some (d, false)) }
  | _ => .no
def bin (f : List D → Option DB) (a b : M DB) : M DB := do
  let x ← a
  let y ← b
  lift (f [x.1, y.1])
def un (f : List D → Option DB) (a : M DB) : M DB := do
  let x ← a
  lift (f [x.1])
def chain (f g : List D → Option DB) (a b c : M DB) : M DB := do
  let x ← a
  let y ← b
  let t ← lift (f [x.1, y.1])
  match t.1 with
  | .bl true => do
    let z ← c
    lift (g [y.1, z.1])
  | .bl false => pure (.bl false, false)
  | _ => lift none
def isN (a : M DB) : M DB := do
  let x ← a
  pure (.bl (isNonD x.1), false)
def notN (a : M DB) : M DB := do
  let x ← a
  pure (.bl (!isNonD x.1), false)
/-- truth -/
def truD : D → Option Bool
  | .non => some false
  | .bl b => some b
  | .int i => some (i != 0)
  | .str x => if x.length ≤ sizeLine then some ((x.length : Int) != 0) else none
  | .tup ds => some (!ds.isEmpty)
  | .lst ds => some (!ds.isEmpty)
  | _ => none
def tru (a : M DB) : M Bool := do
  let x ← a
  lift (truD x.1)
def andB (a b : M Bool) : M Bool := do
  let x ← a
  if x then b else pure false
def orB (a b : M Bool) : M Bool := do
  let x ← a
  if x then pure true else b
def notB (a : M Bool) : M Bool := do
  let x ← a
  pure (!x)
def andV (a b : M DB) : M DB := do
  let x ← a
  let k ← lift (truD x.1)
  if k then b else pure (x.1, false)
def orV (a b : M DB) : M DB := do
  let x ← a
  let k ← lift (truD x.1)
  if k then pure (x.1, false) else b
def notV (a : M DB) : M DB := do
  let x ← a
  let k ← lift (truD x.1)
  pure (.bl (!k), false)
def ife (c : M Bool) (a b : M DB) : M DB := do
  let x ← c
  if x then a else b
def nilA : M (List D) := pure []
def consA (a : M DB) (r : M (List D)) : M (List D) := do
  let x ← a
  let xs ← r
  pure (x.1 :: xs)
def tupM (r : M (List D)) : M DB := do
  let xs ← r
  lift (if xs.length ≤ sizeLine then some (.tup xs, false) else none)
def lstM (r : M (List D)) : M DB := do
  let xs ← r
  lift (if xs.length ≤ sizeLine then some (.lst xs, true) else none)
def callP (f : List D → Option DB) (r : M (List D)) : M DB := do
  let xs ← r
  lift (f xs)

section
variable {K : PySem.W.Frag} {F : Fm} {T : List Addr} {bx : Bxs} {s : S} {σ : St} {H : Hp} {i : Nat} {d : D}
theorem Res.old {v : V} (h : Rep K bx (Wf F s σ T) H d v) : Res K F T bx s σ H (d, false) v := h
theorem set_look {α : Type} {l : List α} {i j : Nat} {x y : α} (h : (l.set i x)[j]? = some y) : (j = i ∧ y = x) ∨ (j ≠ i ∧ l[j]? = some y) := by
  by_cases e : j = i
  · subst e
    rw [List.getElem?_set_self' ] at h
    cases q : l[j]? with
    | none => rw [q] at h; cases h
    | some z => rw [q] at h; cases h; exact .inl ⟨rfl, rfl⟩
  · rw [List.getElem?_set_ne (Ne.symm e)] at h
    exact .inr ⟨e, h⟩
/-- an owned list is shared -/
theorem Rel.share (r : Rel K F bx T s σ H) (e : s.env[i]? = some (some (d, true))) :
    Stp K F T bx s σ H bx T { s with env := s.env.set i (some (d, false)) } σ H ∧ ∃ a : Addr, σ[i]? = some (some (V.ref a)) ∧ Rep K bx (Wf F { s with env := s.env.set i (some (d, false)) } σ T) H d (.ref a) := by
  have wf : ∀ b, Wf F { s with env := s.env.set i (some (d, false)) } σ T b → Wf F s σ T b := by
    intro b z
    rcases z with z | ⟨j, d2, z1, z2⟩ | z
    · exact .inl z
    · rcases set_look z1 with ⟨_, q⟩ | ⟨_, q⟩
      · cases q
      · exact .inr (.inl ⟨j, d2, q, z2⟩)
    · exact .inr (.inr z)
  obtain ⟨a, xs, ds, o, e1, e2, e3, h, h1, h2, h3, h4⟩ := r.ow i d e
  have nO : ¬ Wf F { s with env := s.env.set i (some (d, false)) } σ T a := by
    intro z
    rcases z with z | ⟨j, d2, z1, z2⟩ | z
    · exact h1 z
    · rcases set_look z1 with ⟨_, q⟩ | ⟨n, q⟩
      · cases q
      · exact n (r.inj j i _ _ a q e z2 e2)
    · exact h2 z
  have rp : Rep K bx (Wf F { s with env := s.env.set i (some (d, false)) } σ T) H d (.ref a) := Rep.own e1 e3 nO h3 (h.less wf)
  refine ⟨⟨⟨by simpa using r.len, r.w0, r.wb, fun j d2 q => ?_, fun j d2 q => ?_, fun j k d2 d3 b q1 q2 => ?_, r.box, r.fr, r.tmp, r.nb, r.pre⟩, fun d2 v h => h.less wf, fun _ h => h, fun _ _ h => h, fun _ _ _ h => h, fun _ h => h⟩, a, e2, rp⟩
  · rcases set_look q with ⟨hj, q'⟩ | ⟨_, q⟩
    · cases q'
      exact ⟨_, by rw [hj]; exact e2, rp⟩
    · obtain ⟨v, q1, q2⟩ := r.sh j d2 q
      exact ⟨v, q1, q2.less wf⟩
  · rcases set_look q with ⟨_, q⟩ | ⟨_, q⟩
    · cases q
    · obtain ⟨a', xs', ds', o', p1, p2, p3, p, p4⟩ := r.ow j d2 q
      exact ⟨a', xs', ds', o', p1, p2, p3, p.less wf, p4⟩
  · rcases set_look q1 with ⟨_, q1⟩ | ⟨_, q1⟩
    · cases q1
    · rcases set_look q2 with ⟨_, q2⟩ | ⟨_, q2⟩
      · cases q2
      · exact r.inj j k d2 d3 b q1 q2
end

section
variable {X : Cx} {a b c : Expr} {ma mb mc : M DB} {pos : Pos}
/-- a value that nothing makes -/
theorem rdT.pure {K : PySem.W.Frag} {d : D} {σ : St} {H : Hp} {Q : VK} {v : V} (h : rdT K (cst d) σ H Q) (hv : ∀ bx W H, Rep K bx W H d v) : Q v H := by
  obtain ⟨F, T, bx, s, r, t, s', e, k⟩ := h
  cases e
  exact k v bx H (Stp.refl r) (Res.old (hv _ _ _))
theorem se_int {i : Int} {j : Nat} : SE X (.Constant (.int i) j pos) (cst (.int i)) := PE.weak pe_int fun _ _ _ h => h.pure (v := .int i) fun _ _ _ => Rep.mint
theorem se_bl {i : Bool} {j : Nat} : SE X (.Constant (.bool i) j pos) (cst (.bl i)) := PE.weak pe_bl fun _ _ _ h => h.pure (v := .bl i) fun _ _ _ => Rep.mbl
theorem se_non {j : Nat} : SE X (.Constant .none j pos) (cst .non) := PE.weak pe_non fun _ _ _ h => h.pure (v := .non) fun _ _ _ => Rep.mnon
theorem se_str {x : Str} {j : Nat} : SE X (.Constant (.str x) j pos) (cst (.str x)) := PE.weak pe_str fun _ _ _ h => h.pure (v := .str x) fun _ _ _ => Rep.mstr
theorem rdT.var {K : PySem.W.Frag} {i : Nat} {σ : St} {H : Hp} {Q : VK} (h : rdT K (var i) σ H Q) : tVar i σ H Q := by
  obtain ⟨F, T, bx, s, r, t, s', e, k⟩ := h
  unfold Pd.var at e
  split at e
  · rename_i d q
    cases e
    obtain ⟨v, q1, q2⟩ := r.sh i d q
    exact ⟨v, q1, k v bx H (Stp.refl r) (Res.old q2)⟩
  · rename_i d q
    cases e
    obtain ⟨x, a, e2, rp⟩ := r.share q
    exact ⟨_, e2, k _ bx H x (Res.old rp)⟩
  · cases e
theorem se_var (i : Nat) {x : Str} (hN : X.N[i]? = some x := by rfl) (hv : Vis X.env.scope x := by first | exact Or.inl rfl | exact Or.inr (Or.inl rfl) | exact Or.inr (Or.inr rfl)) (hd : (x == ("__debug__" : Str)) = false := by decide)
    (hcd : (x == ("__classdict__" : Str)) = false := by decide) : SE X (.Name x pos) (var i) := PE.weak (pe_var hN hv hd hcd) fun _ _ _ h => h.var
/-- a module's int -/
theorem se_gint {x : Str} {i : Int} {t : Tok} (hg : Gl X x) (hm : X.mg x = some (.int i t)) (hd : (x == ("__debug__" : Str)) = false := by decide) : SE X (.Name x pos) (cst (.int i)) :=
  PE.weak (pe_glob (v := .int i) hg hm ⟨_, rfl⟩ hd) fun _ _ _ h => h.pure (v := .int i) fun _ _ _ => Rep.mint
theorem se_gstr {x : Str} {i : Str} {t : Tok} (hg : Gl X x) (hm : X.mg x = some (.str i t)) (hd : (x == ("__debug__" : Str)) = false := by decide) : SE X (.Name x pos) (cst (.str i)) :=
  PE.weak (pe_glob (v := .str i) hg hm ⟨_, rfl⟩ hd) fun _ _ _ h => h.pure (v := .str i) fun _ _ _ => Rep.mstr
/-- a built-in type's name -/
theorem se_ty {x : Str} {n : String} (hg : Gl X x) (hm : X.mg x = none) (hv : bootBuiltins x = some (.type n)) (hn : x ≠ "__name__" := by decide) (hd : (x == ("__debug__" : Str)) = false := by decide) : SE X (.Name x pos) (cst (.ty n)) :=
  PE.weak (pe_bltn (v := .ty n) hg hm hv rfl hn hd) fun _ _ _ h => h.pure (v := .ty n) fun _ _ _ => Rep.mty

theorem rd2 {K : PySem.W.Frag} {f : List D → Option DB} {σ : St} {H : Hp} {Q : VK} (h : rdT K (bin f ma mb) σ H Q) :
    rdD K (do let t ← ma; Pure.pure t.1) σ H fun x H1 => rdD K (do let t ← mb; Pure.pure t.1) σ H1 fun y H2 => P2 K f x y H2 Q := by
  obtain ⟨F, T, bx, s, r, t, s', e, k⟩ := h
  obtain ⟨x, s1, e1, e⟩ := bind_ok e
  obtain ⟨y, s2, e2, e⟩ := bind_ok e
  obtain ⟨e3, rfl⟩ := lift_ok e
  refine ⟨F, T, bx, s, r, x.1, s1, by rw [bind_run, e1]; rfl, fun v bx1 H1 x1 q1 => ⟨F, T, bx1, s1, x1.rel, y.1, s', by rw [bind_run, e2]; rfl, fun u bx2 H2 x2 q2 => ?_⟩⟩
  exact Pu.of x2.rel (.cons (x2.tr _ _ q1) (.cons q2 .nil)) e3 fun w H3 x3 q3 => k w bx2 H3 ((x1.trans x2).trans x3) q3
theorem se_bin {op : Operator} {f : List D → Option DB} (ho : OpR X (binaryOp op) (P2 X.K f)) (ha : SE X a ma) (hb : SE X b mb) : SE X (.BinOp a op b pos) (bin f ma mb) := PE.weak (pe_op ho ha.d hb.d) fun _ _ _ h => rd2 h
theorem se_cmp {op : CmpOp} {f : List D → Option DB} (ho : OpR X (compareOp op) (P2 X.K f)) (ha : SE X a ma) (hb : SE X b mb) (hm : behindInMarks op b = false) : SE X (.Compare a [op] [b] pos) (bin f ma mb) := PE.weak (pe_cmpR ho ha.d hb.d hm) fun _ _ _ h => rd2 h
theorem se_un {op : UnaryOp} {f : List D → Option DB} (ho : UnR X (unaryOp op) (fun x H Q => Pu X.K f [x] H Q)) (ha : SE X a ma) : SE X (.UnaryOp op a pos) (un f ma) :=
  PE.weak (pe_un ho ha.d) fun σ H Q h => by
    obtain ⟨F, T, bx, s, r, t, s', e, k⟩ := h
    obtain ⟨x, s1, e1, e⟩ := bind_ok e
    obtain ⟨e3, rfl⟩ := lift_ok e
    refine ⟨F, T, bx, s, r, x.1, s', by rw [bind_run, e1]; rfl, fun v bx1 H1 x1 q1 => ?_⟩
    exact Pu.of x1.rel (.cons q1 .nil) e3 fun w H3 x3 q3 => k w bx1 H3 (x1.trans x3) q3
theorem se_chain {op op' : CmpOp} {f g : List D → Option DB} (ho : OpR X (compareOp op) (P2 X.K f)) (ho' : OpR X (compareOp op') (P2 X.K g)) (ha : SE X a ma) (hb : SE X b mb) (hc : SE X c mc)
    (hm : lastMarks [op, op'] [b, c] = false := by with_unfolding_all rfl) : SE X (.Compare a [op, op'] [b, c] pos) (chain f g ma mb mc) :=
  PE.weak (pe_chain ho ho' ha.d hb.d hc.d hm) fun σ H Q h => by
    obtain ⟨F, T, bx, s, r, t, s', e, k⟩ := h
    obtain ⟨x, s1, e1, e⟩ := bind_ok e
    obtain ⟨y, s2, e2, e⟩ := bind_ok e
    obtain ⟨z, s3, e3', ef⟩ := bind_ok e
    obtain ⟨e3, hs3⟩ := lift_ok e3'
    subst hs3
    refine ⟨F, T, bx, s, r, x.1, s1, by rw [bind_run, e1]; rfl, fun v bx1 H1 x1 q1 => ⟨F, T, bx1, s1, x1.rel, y.1, s3, by rw [bind_run, e2]; rfl, fun u bx2 H2 x2 q2 => ?_⟩⟩
    refine Pu.of x2.rel (.cons (x2.tr _ _ q1) (.cons q2 .nil)) e3 fun w H3 x3 q3 => ?_
    have q3' := q3.rep x3
    have x3' := x3.drop
    obtain ⟨dz, fz⟩ := z
    cases dz with
    | bl kb =>
      cases kb with
      | true =>
        refine ⟨true, q3'.bl, ?_⟩
        rw [if_pos rfl]
        obtain ⟨z', s4, e4, eg⟩ := bind_ok (m := mc) (f := fun z' => lift (g [y.1, z'.1])) ef
        obtain ⟨e5, rfl⟩ := lift_ok eg
        refine ⟨F, T, bx2, s3, x3'.rel, z'.1, s', by rw [bind_run, e4]; rfl, fun w' bx4 H4 x4 q4 => ?_⟩
        exact Pu.of x4.rel (.cons (x4.tr _ _ (x3'.tr _ _ q2)) (.cons q4 .nil)) e5 fun w5 H5 x5 q5 => k w5 bx4 H5 ((((x1.trans x2).trans x3').trans x4).trans x5) q5
      | false =>
        refine ⟨false, q3'.bl, ?_⟩
        rw [if_neg (by decide)]
        cases ef
        exact k _ bx2 H3 ((x1.trans x2).trans x3') (Res.old Rep.mbl)
    | _ => cases ef
theorem isNon_dec {K : PySem.W.Frag} {bx : Bxs} {W : Wd} {H : Hp} {d : D} {v : V} (h : Rep K bx W H d v) : decide (v = .non) = isNonD d := by
  cases d with
  | non => rw [h.non]; rfl
  | bl _ => rw [h.bl]; rfl
  | int _ => rw [h.int]; rfl
  | str _ => rw [h.str]; rfl
  | ty _ => rw [h.ty]; rfl
  | tup _ => obtain ⟨a, xs, rfl, _⟩ := h.tup; rfl
  | lst _ => obtain ⟨a, xs, rfl, _⟩ := h.lst; rfl
  | box _ => unfold Rep at h; obtain ⟨a, rfl, _⟩ := h; rfl
  | dct _ _ => unfold Rep at h; obtain ⟨a, _, rfl, _⟩ := h; rfl
  | glo _ => unfold Rep at h; rw [h]; rfl
  | exc _ _ _ => unfold Rep at h; obtain ⟨a, _, _, rfl, _⟩ := h; rfl
theorem rdT.isN {K : PySem.W.Frag} {σ : St} {H : Hp} {Q : VK} (h : rdT K (isN ma) σ H Q) : rdD K (do let t ← ma; Pure.pure t.1) σ H fun x H1 => Q (.bl (decide (x = .non))) H1 := by
  obtain ⟨F, T, bx, s, r, t, s', e, k⟩ := h
  obtain ⟨x, s1, e1, e⟩ := bind_ok e
  cases e
  refine ⟨F, T, bx, s, r, x.1, _, by rw [bind_run, e1]; rfl, fun v bx1 H1 x1 q1 => ?_⟩
  show Q (.bl (decide (v = .non))) H1
  rw [isNon_dec q1]
  exact k _ bx1 H1 x1 (Res.old Rep.mbl)
theorem rdT.notN {K : PySem.W.Frag} {σ : St} {H : Hp} {Q : VK} (h : rdT K (notN ma) σ H Q) : rdD K (do let t ← ma; Pure.pure t.1) σ H fun x H1 => Q (.bl (!decide (x = .non))) H1 := by
  obtain ⟨F, T, bx, s, r, t, s', e, k⟩ := h
  obtain ⟨x, s1, e1, e⟩ := bind_ok e
  cases e
  refine ⟨F, T, bx, s, r, x.1, _, by rw [bind_run, e1]; rfl, fun v bx1 H1 x1 q1 => ?_⟩
  show Q (.bl (!decide (v = .non))) H1
  rw [isNon_dec q1]
  exact k _ bx1 H1 x1 (Res.old Rep.mbl)
theorem se_isN {j : Nat} {pos' : Pos} (ha : SE X a ma) : SE X (.Compare a [.Is] [.Constant .none j pos'] pos) (isN ma) := PE.weak (pe_cmp (pc_isN ha.d)) fun _ _ _ h => h.isN
theorem se_notN {j : Nat} {pos' : Pos} (ha : SE X a ma) : SE X (.Compare a [.IsNot] [.Constant .none j pos'] pos) (notN ma) := PE.weak (pe_cmp (pc_notN ha.d)) fun _ _ _ h => h.notN

theorem truV_of {K : PySem.W.Frag} {bx : Bxs} {W : Wd} {H : Hp} {d : D} {v : V} {k : Bool} (h : Rep K bx W H d v) (e : truD d = some k) : TruV K v H k := by
  cases d with
  | non => rw [h.non]; cases e; rfl
  | bl _ => rw [h.bl]; cases e; rfl
  | int _ => rw [h.int]; cases e; rfl
  | str _ =>
    rw [h.str]
    simp only [truD] at e
    split at e
    · rename_i c; cases e; exact ⟨c, rfl⟩
    · cases e
  | ty _ => cases e
  | tup ds =>
    obtain ⟨a, xs, rfl, h1, h2⟩ := h.tup
    cases e
    refine .inr (.inl ⟨xs, h1, ?_⟩)
    cases ds with
    | nil => rw [h2.unnil]; rfl
    | cons d ds => obtain ⟨_, _, rfl, _⟩ := h2.uncons; rfl
  | lst ds =>
    obtain ⟨a, xs, rfl, h1, h2⟩ := h.lst
    cases e
    refine .inl ⟨xs, h1, ?_⟩
    cases ds with
    | nil => rw [h2.unnil]; rfl
    | cons d ds => obtain ⟨_, _, rfl, _⟩ := h2.uncons; rfl
  | box _ => cases e
  | dct _ _ => cases e
  | glo _ => cases e
  | exc _ _ _ => cases e
theorem rdB.tru {K : PySem.W.Frag} {σ : St} {H : Hp} {Q : Bool → Hp → Prop} (h : rdB K (tru ma) σ H Q) : rdD K (do let t ← ma; Pure.pure t.1) σ H fun x H' => ∃ k, TruV K x H' k ∧ Q k H' := by
  obtain ⟨F, T, bx, s, r, t, s', e, k⟩ := h
  obtain ⟨x, s1, e1, e⟩ := bind_ok e
  obtain ⟨e2, rfl⟩ := lift_ok e
  exact ⟨F, T, bx, s, r, x.1, s', by rw [bind_run, e1]; rfl, fun v bx1 H1 x1 q1 => ⟨t, truV_of q1 e2, k bx1 H1 x1⟩⟩
/-- any expression but and, or, not, a comparison, as a test -/
theorem sb_tru (ha : SE X a ma) (he : ∀ whole, isTrue a X.env whole = (do let v ← whole; standAt a.pos; holding [v] (truthy v)) := by intro _; rfl) : SB X a (tru ma) := PT.weak (pt_truth ha.d he) fun _ _ _ h => h.tru
/-- a comparison whose answer is a truth -/
theorem rdB.test {K : PySem.W.Frag} {m : M DB} {σ : St} {H : Hp} {Q : Bool → Hp → Prop} (hb : ∀ s t s', m s = .ok t s' → ∃ k, t.1 = .bl k) (h : rdB K (Pd.tru m) σ H Q) : rdT K m σ H fun x H' => ∃ k, x = .bl k ∧ Q k H' := by
  obtain ⟨F, T, bx, s, r, t, s', e, k⟩ := h
  obtain ⟨x, s1, e1, e⟩ := bind_ok e
  obtain ⟨e2, rfl⟩ := lift_ok e
  obtain ⟨c, hc⟩ := hb _ _ _ e1
  refine ⟨F, T, bx, s, r, x, s', e1, fun v bx1 H1 x1 q1 => ?_⟩
  have q2 := q1.rep x1
  rw [hc] at q2 e2
  cases e2
  exact ⟨_, q2.bl, k bx1 H1 x1.drop⟩
end
end L2.Pd
set_option maxHeartbeats 4000000
namespace L2.Pd
open PySem PySem.Spec PyProof.Rows

section
variable {X : Cx} {a b c : Expr} {ma mb mc : M DB} {na nb : M Bool} {pos : Pos} {rest : List Expr}
def BlF (f : List D → Option DB) : Prop := ∀ ds t, f ds = some t → ∃ k, t.1 = .bl k
theorem BlF.bin {f : List D → Option DB} (h : BlF f) : ∀ s t s', bin f ma mb s = .ok t s' → ∃ k, t.1 = .bl k := fun s t s' e => by
  obtain ⟨x, s1, e1, e⟩ := bind_ok e
  obtain ⟨y, s2, e2, e⟩ := bind_ok e
  obtain ⟨e3, rfl⟩ := lift_ok e
  exact h _ _ e3
theorem BlF.chain {f g : List D → Option DB} (h : BlF g) : ∀ s t s', chain f g ma mb mc s = .ok t s' → ∃ k, t.1 = .bl k := fun s t s' e => by
  obtain ⟨x, s1, e1, e⟩ := bind_ok e
  obtain ⟨y, s2, e2, e⟩ := bind_ok e
  obtain ⟨⟨dz, fz⟩, s3, e3, ef⟩ := bind_ok e
  cases dz with
  | bl kb =>
    cases kb with
    | true =>
      obtain ⟨z', s4, e4, eg⟩ := bind_ok (m := mc) (f := fun z' => lift (g [y.1, z'.1])) ef
      obtain ⟨e5, rfl⟩ := lift_ok eg
      exact h _ _ e5
    | false => cases ef; exact ⟨_, rfl⟩
  | _ => cases ef
theorem blF_lt : BlF ltD := fun ds t h => by unfold ltD at h; split at h <;> cases h; exact ⟨_, rfl⟩
theorem blF_le : BlF leD := fun ds t h => by unfold leD at h; split at h <;> cases h; exact ⟨_, rfl⟩
theorem blF_gt : BlF gtD := fun ds t h => by unfold gtD at h; split at h <;> cases h; exact ⟨_, rfl⟩
theorem blF_ge : BlF geD := fun ds t h => by unfold geD at h; split at h <;> cases h; exact ⟨_, rfl⟩
theorem blF_eq : BlF eqD := fun ds t h => by
  unfold eqD at h
  split at h
  · cases h; exact ⟨_, rfl⟩
  · split at h
    · split at h
      · cases h; exact ⟨_, rfl⟩
      · cases h
    · cases h
  · cases h
theorem blF_ne : BlF neD := fun ds t h => by
  unfold neD at h
  split at h
  · cases h; exact ⟨_, rfl⟩
  · split at h
    · split at h
      · cases h; exact ⟨_, rfl⟩
      · cases h
    · cases h
  · cases h
theorem blF_in : BlF inD := fun ds t h => by
  unfold inD at h
  split at h
  · split at h
    · split at h <;> cases h; exact ⟨_, rfl⟩
    · cases h
  · split at h
    · split at h <;> cases h; exact ⟨_, rfl⟩
    · cases h
  · cases h
theorem blF_notIn : BlF notInD := fun ds t h => by
  unfold notInD at h
  split at h
  · split at h
    · split at h <;> cases h; exact ⟨_, rfl⟩
    · cases h
  · split at h
    · split at h <;> cases h; exact ⟨_, rfl⟩
    · cases h
  · cases h
theorem sb_cmp {op : CmpOp} {f : List D → Option DB} (ho : OpR X (compareOp op) (P2 X.K f)) (hf : BlF f) (ha : SE X a ma) (hb : SE X b mb) (hm : behindInMarks op b = false) : SB X (.Compare a [op] [b] pos) (tru (bin f ma mb)) :=
  PT.weak (pt_cmpR ho ha.d hb.d hm) fun _ _ _ h => rd2 (rdB.test hf.bin h)
theorem sb_isN {j : Nat} {pos' : Pos} (ha : SE X a ma) : SB X (.Compare a [.Is] [.Constant .none j pos'] pos) (tru (isN ma)) :=
  PT.weak (pt_cmp (pc_isN ha.d)) fun _ _ _ h => (rdB.test (fun s t s' e => by obtain ⟨x, s1, e1, e⟩ := bind_ok e; cases e; exact ⟨_, rfl⟩) h).isN
theorem sb_notN {j : Nat} {pos' : Pos} (ha : SE X a ma) : SB X (.Compare a [.IsNot] [.Constant .none j pos'] pos) (tru (notN ma)) :=
  PT.weak (pt_cmp (pc_notN ha.d)) fun _ _ _ h => (rdB.test (fun s t s' e => by obtain ⟨x, s1, e1, e⟩ := bind_ok e; cases e; exact ⟨_, rfl⟩) h).notN
theorem rdChain {K : PySem.W.Frag} {f g : List D → Option DB} {σ : St} {H : Hp} {Q : VK} (h : rdT K (chain f g ma mb mc) σ H Q) :
    tChain (P2 K f) (P2 K g) (rdD K (do let t ← ma; Pure.pure t.1)) (rdD K (do let t ← mb; Pure.pure t.1)) (rdD K (do let t ← mc; Pure.pure t.1)) σ H Q := by
  obtain ⟨F, T, bx, s, r, t, s', e, k⟩ := h
  obtain ⟨x, s1, e1, e⟩ := bind_ok e
  obtain ⟨y, s2, e2, e⟩ := bind_ok e
  obtain ⟨z, s3, e3', ef⟩ := bind_ok e
  obtain ⟨e3, hs3⟩ := lift_ok e3'
  subst hs3
  refine ⟨F, T, bx, s, r, x.1, s1, by rw [bind_run, e1]; rfl, fun v bx1 H1 x1 q1 => ⟨F, T, bx1, s1, x1.rel, y.1, s3, by rw [bind_run, e2]; rfl, fun u bx2 H2 x2 q2 => ?_⟩⟩
  refine Pu.of x2.rel (.cons (x2.tr _ _ q1) (.cons q2 .nil)) e3 fun w H3 x3 q3 => ?_
  have q3' := q3.rep x3
  have x3' := x3.drop
  obtain ⟨dz, fz⟩ := z
  cases dz with
  | bl kb =>
    cases kb with
    | true =>
      refine ⟨true, q3'.bl, ?_⟩
      rw [if_pos rfl]
      obtain ⟨z', s4, e4, eg⟩ := bind_ok (m := mc) (f := fun z' => lift (g [y.1, z'.1])) ef
      obtain ⟨e5, rfl⟩ := lift_ok eg
      refine ⟨F, T, bx2, s3, x3'.rel, z'.1, s', by rw [bind_run, e4]; rfl, fun w' bx4 H4 x4 q4 => ?_⟩
      exact Pu.of x4.rel (.cons (x4.tr _ _ (x3'.tr _ _ q2)) (.cons q4 .nil)) e5 fun w5 H5 x5 q5 => k w5 bx4 H5 ((((x1.trans x2).trans x3').trans x4).trans x5) q5
    | false =>
      refine ⟨false, q3'.bl, ?_⟩
      rw [if_neg (by decide)]
      cases ef
      exact k _ bx2 H3 ((x1.trans x2).trans x3') (Res.old Rep.mbl)
  | _ => cases ef
theorem sb_chain {op op' : CmpOp} {f g : List D → Option DB} (ho : OpR X (compareOp op) (P2 X.K f)) (ho' : OpR X (compareOp op') (P2 X.K g)) (hg : BlF g) (ha : SE X a ma) (hb : SE X b mb) (hc : SE X c mc)
    (hm : lastMarks [op, op'] [b, c] = false := by with_unfolding_all rfl) : SB X (.Compare a [op, op'] [b, c] pos) (tru (chain f g ma mb mc)) :=
  PT.weak (pt_chain ho ho' ha.d hb.d hc.d hm) fun _ _ _ h => rdChain (rdB.test hg.chain h)
def SW (X : Cx) (e : Expr) (m : M Bool) : Prop := PW X e (rdB X.K m)
theorem PW.weak {e : Expr} {t t' : TT} (h : PW X e t) (w : ∀ σ H Q, t' σ H Q → t σ H Q) : PW X e t' := ⟨fun wh pins s σ H Q I q => h.run wh pins s σ H Q I (w _ _ _ q)⟩
theorem SW.sb {e : Expr} (h : SW X e na) : SB X e na := PW.pt h
theorem sw_and1 (h : SB X a na) : SW X (.BoolOp .And [a] pos) na := pw_and1 h
theorem sw_or1 (h : SB X a na) : SW X (.BoolOp .Or [a] pos) na := pw_or1 h
theorem sw_and (ha : SB X a na) (hb : SW X (.BoolOp .And (b :: rest) pos) nb) : SW X (.BoolOp .And (a :: b :: rest) pos) (andB na nb) := PW.weak (pw_and ha hb) fun σ H Q h => by
  obtain ⟨F, T, bx, s, r, t, s', e, k⟩ := h
  obtain ⟨x, s1, e1, e⟩ := bind_ok e
  refine ⟨F, T, bx, s, r, x, s1, e1, fun bx1 H1 x1 => ?_⟩
  cases x with
  | true => exact ⟨F, T, bx1, s1, x1.rel, t, s', e, fun bx2 H2 x2 => k bx2 H2 (x1.trans x2)⟩
  | false => cases e; exact k bx1 H1 x1
theorem sw_or (ha : SB X a na) (hb : SW X (.BoolOp .Or (b :: rest) pos) nb) : SW X (.BoolOp .Or (a :: b :: rest) pos) (orB na nb) := PW.weak (pw_or ha hb) fun σ H Q h => by
  obtain ⟨F, T, bx, s, r, t, s', e, k⟩ := h
  obtain ⟨x, s1, e1, e⟩ := bind_ok e
  refine ⟨F, T, bx, s, r, x, s1, e1, fun bx1 H1 x1 => ?_⟩
  cases x with
  | false => exact ⟨F, T, bx1, s1, x1.rel, t, s', e, fun bx2 H2 x2 => k bx2 H2 (x1.trans x2)⟩
  | true => cases e; exact k bx1 H1 x1
theorem sb_not (ha : SB X a na) : SB X (.UnaryOp .Not a pos) (notB na) := PT.weak (pt_not ha) fun σ H Q h => by
  obtain ⟨F, T, bx, s, r, t, s', e, k⟩ := h
  obtain ⟨x, s1, e1, e⟩ := bind_ok e
  cases e
  exact ⟨F, T, bx, s, r, x, _, e1, fun bx1 H1 x1 => k bx1 H1 x1⟩

theorem se_ife (hc : SB X c na) (ha : SE X a ma) (hb : SE X b mb) : SE X (.IfExp c a b pos) (ife na ma mb) := PE.weak (pe_ifExp hc ha hb) fun σ H Q h => by
  obtain ⟨F, T, bx, s, r, t, s', e, k⟩ := h
  obtain ⟨x, s1, e1, e⟩ := bind_ok e
  refine ⟨F, T, bx, s, r, x, s1, e1, fun bx1 H1 x1 => ?_⟩
  cases x with
  | true => exact ⟨F, T, bx1, s1, x1.rel, t, s', e, fun v bx2 H2 x2 => k v bx2 H2 (x1.trans x2)⟩
  | false => exact ⟨F, T, bx1, s1, x1.rel, t, s', e, fun v bx2 H2 x2 => k v bx2 H2 (x1.trans x2)⟩
theorem se_one {op : BoolOp} (ha : SE X a ma) : SE X (.BoolOp op [a] pos) ma := pe_one ha
theorem se_and (ha : SE X a ma) (hb : SE X (.BoolOp .And (b :: rest) pos) mb) : SE X (.BoolOp .And (a :: b :: rest) pos) (andV ma mb) := PE.weak (pe_andT ha.d hb) fun σ H Q h => by
  obtain ⟨F, T, bx, s, r, t, s', e, k⟩ := h
  obtain ⟨x, s1, e1, e⟩ := bind_ok e
  obtain ⟨q, s2, e2', e⟩ := bind_ok e
  obtain ⟨e2, hs2⟩ := lift_ok e2'
  subst hs2
  refine ⟨F, T, bx, s, r, x.1, s2, by rw [bind_run, e1]; rfl, fun v bx1 H1 x1 q1 => ⟨q, truV_of q1 e2, ?_⟩⟩
  cases q with
  | true => exact ⟨F, T, bx1, s2, x1.rel, t, s', e, fun v bx2 H2 x2 => k v bx2 H2 (x1.trans x2)⟩
  | false => cases e; exact k v bx1 H1 x1 (Res.old q1)
theorem se_or (ha : SE X a ma) (hb : SE X (.BoolOp .Or (b :: rest) pos) mb) : SE X (.BoolOp .Or (a :: b :: rest) pos) (orV ma mb) := PE.weak (pe_orT ha.d hb) fun σ H Q h => by
  obtain ⟨F, T, bx, s, r, t, s', e, k⟩ := h
  obtain ⟨x, s1, e1, e⟩ := bind_ok e
  obtain ⟨q, s2, e2', e⟩ := bind_ok e
  obtain ⟨e2, hs2⟩ := lift_ok e2'
  subst hs2
  refine ⟨F, T, bx, s, r, x.1, s2, by rw [bind_run, e1]; rfl, fun v bx1 H1 x1 q1 => ⟨q, truV_of q1 e2, ?_⟩⟩
  cases q with
  | false => exact ⟨F, T, bx1, s2, x1.rel, t, s', e, fun v bx2 H2 x2 => k v bx2 H2 (x1.trans x2)⟩
  | true => cases e; exact k v bx1 H1 x1 (Res.old q1)
theorem se_not (ha : SE X a ma) : SE X (.UnaryOp .Not a pos) (notV ma) := PE.weak (pe_notT ha.d) fun σ H Q h => by
  obtain ⟨F, T, bx, s, r, t, s', e, k⟩ := h
  obtain ⟨x, s1, e1, e⟩ := bind_ok e
  obtain ⟨q, s2, e2', ef⟩ := bind_ok e
  obtain ⟨e2, hs2⟩ := lift_ok e2'
  subst hs2
  cases ef
  exact ⟨F, T, bx, s, r, x.1, _, by rw [bind_run, e1]; rfl, fun v bx1 H1 x1 q1 => ⟨q, truV_of q1 e2, k _ bx1 H1 x1 (Res.old Rep.mbl)⟩⟩
end

section
variable {X : Cx} {a b : Expr} {ma mb : M DB} {pos : Pos} {es : List Expr} {mr : M (List D)}
theorem sa_nil : SA X [] nilA := PA.weak pa_nil fun σ H Q h => by
  obtain ⟨F, T, bx, s, r, t, s', e, k⟩ := h
  cases e
  exact k [] bx H (Stp.refl r) .nil
theorem sa_cons (ha : SE X a ma) (hr : SA X es mr) (hs : starEach (a :: es) X.env = (false, eval a X.env) :: starEach es X.env := by rfl) : SA X (a :: es) (consA ma mr) := PA.weak (pa_cons ha.d hr hs) fun σ H Q h => by
  obtain ⟨F, T, bx, s, r, t, s', e, k⟩ := h
  obtain ⟨x, s1, e1, e⟩ := bind_ok e
  obtain ⟨xs, s2, e2, e⟩ := bind_ok e
  cases e
  exact ⟨F, T, bx, s, r, x.1, s1, by rw [bind_run, e1]; rfl, fun v bx1 H1 x1 q1 => ⟨F, T, bx1, s1, x1.rel, xs, _, e2, fun vs bx2 H2 x2 q2 => k _ bx2 H2 (x1.trans x2) (.cons (x2.tr _ _ q1) q2)⟩⟩
theorem se_tup {k : Nat} (h : SA X es mr) : SE X (.Tuple es k pos) (tupM mr) := PE.weak (pe_tup h) fun σ H Q h => by
  obtain ⟨F, T, bx, s, r, t, s', e, k⟩ := h
  obtain ⟨xs, s1, e1, e⟩ := bind_ok e
  obtain ⟨e2, rfl⟩ := lift_ok e
  split at e2
  · rename_i c
    cases e2
    refine ⟨F, T, bx, s, r, xs, s', e1, fun vs bx1 H1 x1 q1 => ⟨by rw [← q1.length]; exact c, fun p hp => ?_⟩⟩
    obtain ⟨y, z⟩ := ResN.res x1.rel (Grow.new hp) (ResN.newT hp q1)
    exact k _ bx1 _ (x1.trans y) z
  · cases e2
theorem se_lst (h : SA X es mr) : SE X (.List es pos) (lstM mr) := PE.weak (pe_lst h) fun σ H Q h => by
  obtain ⟨F, T, bx, s, r, t, s', e, k⟩ := h
  obtain ⟨xs, s1, e1, e⟩ := bind_ok e
  obtain ⟨e2, rfl⟩ := lift_ok e
  split at e2
  · rename_i c
    cases e2
    refine ⟨F, T, bx, s, r, xs, s', e1, fun vs bx1 H1 x1 q1 => ⟨by rw [← q1.length]; exact c, fun p hp => ?_⟩⟩
    obtain ⟨y, z⟩ := ResN.res x1.rel (Grow.new hp) (ResN.newL hp q1)
    exact k _ bx1 _ (x1.trans y) z
  · cases e2
theorem rdCall {K : PySem.W.Frag} {f : List D → Option DB} {σ : St} {H : Hp} {Q : VK} (h : rdT K (callP f mr) σ H Q) : rdA K mr σ H fun vs H1 => Pu K f vs H1 Q := by
  obtain ⟨F, T, bx, s, r, t, s', e, k⟩ := h
  obtain ⟨xs, s1, e1, e⟩ := bind_ok e
  obtain ⟨e2, rfl⟩ := lift_ok e
  exact ⟨F, T, bx, s, r, xs, s', e1, fun vs bx1 H1 x1 q1 => Pu.of x1.rel q1 e2 fun v H2 x2 q2 => k v bx1 H2 (x1.trans x2) q2⟩
/-- f(..) of a built-in function -/
theorem se_callB {x : Str} {id : String} {p : Pos} {f : List D → Option DB} (hc : CallR X (.builtin id) (Pu X.K f)) (hg : Gl X x) (hm : X.mg x = none) (hv : bootBuiltins x = some (.builtin id)) (ha : SA X (a :: es) mr) (hn : x ≠ "__name__" := by decide) (hdb : (x == ("__debug__" : Str)) = false := by decide)
    (he : starEach (a :: es) X.env = (false, eval a X.env) :: starEach es X.env := by rfl) (hpl : (backTo pos (starEach es X.env)).any (·.1) = false := by rfl) : SE X (.Call (.Name x p) (a :: es) [] pos) (callP f mr) :=
  PE.weak (pe_callB hc hg hm hv ha hn hdb he hpl) fun _ _ _ h => rdCall h
theorem se_callTy {x : Str} {T : String} {p : Pos} {f : List D → Option DB} (hc : CallR X (.type T) (Pu X.K f)) (hg : Gl X x) (hm : X.mg x = none) (hv : bootBuiltins x = some (.type T)) (ha : SA X (a :: es) mr) (hn : x ≠ "__name__" := by decide) (hdb : (x == ("__debug__" : Str)) = false := by decide)
    (he : starEach (a :: es) X.env = (false, eval a X.env) :: starEach es X.env := by rfl) (hpl : (backTo pos (starEach es X.env)).any (·.1) = false := by rfl) : SE X (.Call (.Name x p) (a :: es) [] pos) (callP f mr) :=
  PE.weak (pe_callTy hc hg hm hv ha hn hdb he hpl) fun _ _ _ h => rdCall h
def idxD : List D → Option DB
  | [.lst xs, .int i] => (atI xs i).map fun d => (d, false)
  | [.tup xs, .int i] => (atI xs i).map fun d => (d, false)
  | [.str z, .int i] => if z.length ≤ sizeLine then (atI z.cps.toList i).map fun c => (.str ⟨#[c]⟩, false) else none
  | _ => none
theorem RepL.atI {K : PySem.W.Frag} {bx : Bxs} {W : Wd} {H : Hp} {ds : List D} {vs : List V} {i : Int} {d : D} (r : RepL K bx W H ds vs) (h : atI ds i = some d) : ∃ v, atI vs i = some v ∧ Rep K bx W H d v := by
  unfold L2.atI at h ⊢
  rw [← r.length]
  cases q : ixN ds.length i with
  | none => rw [q] at h; cases h
  | some j =>
    rw [q] at h
    exact r.get h
theorem ix_D : IxR X (P2 X.K idxD) := by
  intro ev es pins s σ H x y v u Q I rx ry h hsub
  obtain ⟨bx, W, ds, t, r, e, k⟩ := h
  obtain ⟨d1, d2, rfl, h1, h2⟩ := r.two
  unfold idxD at e
  split at e
  · rename_i xs i q
    cases q
    obtain ⟨d, e1, rfl⟩ := Option.map_eq_some_iff.mp e
    obtain ⟨a, vs, rfl, q1, q2⟩ := h1.lst
    obtain ⟨w, e2, q3⟩ := q2.atI e1
    exact ix_list ev es pins s σ H _ _ v u Q I rx ry ⟨a, vs, i, w, rfl, h2.int, q1, e2, k _ H Grow.refl (ResN.old q3)⟩ hsub
  · rename_i xs i q
    cases q
    obtain ⟨d, e1, rfl⟩ := Option.map_eq_some_iff.mp e
    obtain ⟨a, vs, rfl, q1, q2⟩ := h1.tup
    obtain ⟨w, e2, q3⟩ := q2.atI e1
    exact ix_tup ev es pins s σ H _ _ v u Q I rx ry ⟨a, vs, i, w, rfl, h2.int, q1, e2, k _ H Grow.refl (ResN.old q3)⟩ hsub
  · rename_i z i q
    cases q
    split at e
    · rename_i c
      obtain ⟨d, e1, rfl⟩ := Option.map_eq_some_iff.mp e
      exact ix_str ev es pins s σ H _ _ v u Q I rx ry ⟨z, i, d, h1.str, h2.int, c, e1, k _ H Grow.refl (ResN.old Rep.mstr)⟩ hsub
    · cases e
  · cases e
theorem se_ix (ha : SE X a ma) (hb : SE X b mb) (hs : PlainIx b := by exact fun _ _ => rfl) : SE X (.Subscript a b pos) (bin idxD ma mb) := PE.weak (pe_ix ix_D ha.d hb.d hs) fun _ _ _ h => rd2 h
end
end L2.Pd
set_option maxHeartbeats 4000000
namespace L2.Pd
open PySem PySem.Spec PyProof.Rows

inductive Fl where
  | nx | rt (t : DB) | bk | ct
def seqM (a b : M Fl) : M Fl := do
  let f ← a
  match f with
  | .nx => b
  | f => pure f
def ret (m : M DB) : M Fl := do
  let t ← m
  pure (.rt t)
/-- return of a name: an owned list is handed over -/
def retV (i : Nat) : M Fl := fun s => match s.env[i]? with
  | some (some (d, false)) => .ok (.rt (d, false)) s
  | some (some (d, true)) => .ok (.rt (d, true)) { s with env := s.env.set i none }
  | _ => .no
def drp (m : M DB) : M Fl := do
  let _ ← m
  pure .nx
def ifM (c : M Bool) (a b : M Fl) : M Fl := do
  let x ← c
  if x then a else b
def putv (i : Nat) (t : DB) : M Fl := fun s => if i < s.env.length then .ok .nx { s with env := s.env.set i (some t) } else .no
def setv (i : Nat) (m : M DB) : M Fl := do
  let t ← m
  putv i t
def par2 (i j : Nat) (a b : M DB) : M Fl := do
  let x ← a
  let y ← b
  let _ ← putv j y
  putv i x
/-- targets -/
def gnm (i : Nat) (d : D) : M Unit := fun s => if i < s.env.length then .ok () { s with env := s.env.set i (some (d, false)) } else .no
def gnil (ds : List D) : M Unit := match ds with
  | [] => pure ()
  | _ => lift none
def gcons (g : D → M Unit) (gs : List D → M Unit) (ds : List D) : M Unit := match ds with
  | d :: r => do
    g d
    gs r
  | [] => lift none
def gtp (n : Nat) (gs : List D → M Unit) (d : D) : M Unit := match d with
  | .tup ds => if ds.length = n then gs ds else lift none
  | _ => lift none
def asg (g : D → M Unit) (m : M DB) : M Fl := do
  let t ← m
  g t.1
  pure .nx

def rdS (K : PySem.W.Frag) (m : M Fl) : TS := fun D σ H => ∃ F T bx s, Rel K F bx T s σ H ∧ ∃ fl s', m s = .ok fl s' ∧ match fl with
  | .nx => ∀ bx' σ' H', Stp K F T bx s σ H bx' T s' σ' H' → D.nx σ' H'
  | .bk => ∀ bx' σ' H', Stp K F T bx s σ H bx' T s' σ' H' → D.bk σ' H'
  | .ct => ∀ bx' σ' H', Stp K F T bx s σ H bx' T s' σ' H' → D.ct σ' H'
  | .rt t => ∀ v bx' σ' H', Stp K F T bx s σ H bx' (tmpOf t v T) s' σ' H' → Res K F T bx' s' σ' H' t v → D.rt v H'
def SS (X : Cx) (e : Stmt) (m : M Fl) : Prop := PS X e (rdS X.K m)
def SSs (X : Cx) (e : List Stmt) (m : M Fl) : Prop := PSs X e (rdS X.K m)
def rdG (K : PySem.W.Frag) (g : D → M Unit) (ws : List Nat) : TG := fun v σ H Q => ∃ F T bx s d, Rel K F bx T s σ H ∧ Rep K bx (Wf F s σ T) H d v ∧ ∃ s', g d s = .ok () s' ∧
  ∀ bx' σ' H', Stp K F T bx s σ H bx' T s' σ' H' → (∀ j, j ∉ ws → σ'[j]? = σ[j]?) → σ'.length = σ.length → Q σ' H'
def rdGs (K : PySem.W.Frag) (g : List D → M Unit) (ws : List Nat) : TGs := fun vs σ H Q => ∃ F T bx s ds, Rel K F bx T s σ H ∧ RepL K bx (Wf F s σ T) H ds vs ∧ ∃ s', g ds s = .ok () s' ∧
  ∀ bx' σ' H', Stp K F T bx s σ H bx' T s' σ' H' → (∀ j, j ∉ ws → σ'[j]? = σ[j]?) → σ'.length = σ.length → Q σ' H'
def SG (X : Cx) (e : Expr) (g : D → M Unit) (ws : List Nat) : Prop := PG X e (rdG X.K g ws)
def SGs (X : Cx) (e : List Expr) (g : List D → M Unit) (ws : List Nat) : Prop := PGs X e (rdGs X.K g ws)
theorem PG.weak {X : Cx} {e : Expr} {t t' : TG} (h : PG X e t) (w : ∀ v σ H Q, t' v σ H Q → t v σ H Q) : PG X e t' := ⟨fun pins s σ H v u Q I r q => h.run pins s σ H v u Q I r (w _ _ _ _ q)⟩
theorem PGs.weak {X : Cx} {e : List Expr} {t t' : TGs} (h : PGs X e t) (w : ∀ v σ H Q, t' v σ H Q → t v σ H Q) : PGs X e t' := ⟨fun pins s σ H v u Q I r q => h.run pins s σ H v u Q I r (w _ _ _ _ q)⟩

section
variable {K : PySem.W.Frag} {F : Fm} {T T' : List Addr} {bx bx' : Bxs} {s s' : S} {σ σ' : St} {H H' : Hp} {t : DB} {v : V} {i : Nat} {d : D}
theorem assign_wf (hi : i < s.env.length) : ∀ b, Wf F { s with env := s.env.set i (some t) } (σ.set i (some v)) T b → Wf F s σ (tmpOf t v T) b := by
  intro b z
  rcases z with z | ⟨j, d2, z1, z2⟩ | z
  · exact .inl z
  · rcases set_look z1 with ⟨ej, q⟩ | ⟨ej, q⟩
    · rcases set_look z2 with ⟨_, q2⟩ | ⟨n, _⟩
      · have q : some (d2, true) = some t := q
        have q2 : some (V.ref b) = some v := q2
        cases q
        cases q2
        exact .inr (.inr List.mem_cons_self)
      · exact absurd ej n
    · rcases set_look z2 with ⟨n, _⟩ | ⟨_, q2⟩
      · exact absurd n ej
      · exact .inr (.inl ⟨j, d2, q, q2⟩)
  · exact .inr (.inr (tmpOf.sub b z))
theorem Rel.put (r : Rel K F bx (tmpOf t v T) s σ H) (q : Res K F T bx s σ H t v) (hi : i < s.env.length) : Rel K F bx T { s with env := s.env.set i (some t) } (σ.set i (some v)) H := by
  have wf : ∀ b, Wf F { s with env := s.env.set i (some t) } (σ.set i (some v)) T b → Wf F s σ (tmpOf t v T) b := assign_wf hi
  have hiσ : i < σ.length := by rw [← r.len]; exact hi
  have sg : ∀ j, j = i → (σ.set i (some v))[j]? = some (some v) := fun j e => by rw [e]; exact List.getElem?_set_self hiσ
  have so : ∀ j, j ≠ i → (σ.set i (some v))[j]? = σ[j]? := fun j e => List.getElem?_set_ne (Ne.symm e)
  refine ⟨by simpa using r.len, r.w0, r.wb, fun j d2 p => ?_, fun j d2 p => ?_, fun j k d2 d3 b p1 p2 p3 p4 => ?_, r.box, r.fr, fun a z => r.tmp a (tmpOf.sub a z), r.nb, r.pre⟩
  · rcases set_look p with ⟨ej, p⟩ | ⟨ej, p⟩
    · have p : some (d2, false) = some t := p
      cases p
      exact ⟨v, sg j ej, Rep.less wf (show Rep K bx (Wf F s σ T) H d2 v from q)⟩
    · obtain ⟨u, e1, h⟩ := r.sh j d2 p
      exact ⟨u, (so j ej).trans e1, h.less wf⟩
  · rcases set_look p with ⟨ej, p⟩ | ⟨ej, p⟩
    · have p : some (d2, true) = some t := p
      cases p
      obtain ⟨a, xs, ds, o, e1, e2, e3, h, hn, hT⟩ := q
      have e2 : v = .ref a := e2
      subst e2
      obtain ⟨h1, h2, h3, _⟩ := r.tmp a (show a ∈ a :: T from List.mem_cons_self)
      exact ⟨a, xs, ds, o, e1, sg j ej, e3, h.less wf, h1, hT, h2, h3⟩
    · obtain ⟨a, xs, ds, o, e1, e2, e3, h, h1, h2, h3, h4⟩ := r.ow j d2 p
      exact ⟨a, xs, ds, o, e1, (so j ej).trans e2, e3, h.less wf, h1, fun z => h2 (tmpOf.sub a z), h3, h4⟩
  · rcases set_look p1 with ⟨ej, pa⟩ | ⟨ej, pa⟩
    · rcases set_look p2 with ⟨ek, pb⟩ | ⟨ek, pb⟩
      · exact ej.trans ek.symm
      · exfalso
        have p1' : some (d2, true) = some t := pa
        obtain ⟨⟩ := p1'
        have q3 : some (some v) = some (some (V.ref b)) := (sg j ej).symm.trans p3
        obtain ⟨⟩ := q3
        obtain ⟨a, xs, ds, o, e1, e2, e3, h, hn, hT⟩ := q
        obtain ⟨⟩ := e2
        exact hn ⟨k, d3, pb, (so k ek).symm.trans p4⟩
    · rcases set_look p2 with ⟨ek, pb⟩ | ⟨ek, pb⟩
      · exfalso
        have p2' : some (d3, true) = some t := pb
        obtain ⟨⟩ := p2'
        have q3 : some (some v) = some (some (V.ref b)) := (sg k ek).symm.trans p4
        obtain ⟨⟩ := q3
        obtain ⟨a, xs, ds, o, e1, e2, e3, h, hn, hT⟩ := q
        obtain ⟨⟩ := e2
        exact hn ⟨j, d2, pa, (so j ej).symm.trans p3⟩
      · exact r.inj j k d2 d3 b pa pb ((so j ej).symm.trans p3) ((so k ek).symm.trans p4)
/-- the step of an assignment, from ahead of the value -/
theorem Stp.put {bx₀ : Bxs} {s₀ : S} {σ₀ : St} {H₀ : Hp} (x : Stp K F T bx₀ s₀ σ₀ H₀ bx (tmpOf t v T) s σ H) (q : Res K F T bx s σ H t v) (hi : i < s.env.length) :
    Stp K F T bx₀ s₀ σ₀ H₀ bx T { s with env := s.env.set i (some t) } (σ.set i (some v)) H :=
  ⟨x.rel.put q hi, fun d u h => (x.tr d u h).less (assign_wf hi), x.tk, x.pre, x.kt, fun _ h => h⟩
/-- a result is carried over a step that begins with its temporary -/
theorem Res.to (q : Res K F T bx s σ H t v) (x : Stp K F (tmpOf t v T) bx s σ H bx' (tmpOf t v T) s' σ' H') : Res K F T bx' s' σ' H' t v := by
  obtain ⟨d, fr⟩ := t
  cases fr with
  | false => exact x.tr d v q
  | true =>
    obtain ⟨a, xs, ds, o, e1, e2, e3, h, hn, hT⟩ := q
    have e2 : v = .ref a := e2
    subst e2
    have ha : a ∈ a :: T := List.mem_cons_self
    refine ⟨a, xs, ds, o, e1, rfl, x.kt a ha _ e3, x.trL ds xs h, fun z => ?_, hT⟩
    obtain ⟨j, d2, z1, z2⟩ := z
    obtain ⟨b, _, _, _, _, p1, _, _, _, p2, _⟩ := x.rel.ow j d2 z1
    rw [z2] at p1
    cases p1
    exact p2 ha
end

section
variable {X : Cx} {a b c : Expr} {ma mb : M DB} {na : M Bool} {st : Stmt} {rest A B : List Stmt} {m1 m2 : M Fl} {pos : Pos}
theorem sss_nil : SSs X [] (pure .nx) := PSs.weak pss_nil fun D σ H h => by
  obtain ⟨F, T, bx, s, r, fl, s', e, k⟩ := h
  cases e
  exact k bx σ H (Stp.refl r)
theorem rdS.seq {K : PySem.W.Frag} {D : Ends} {σ : St} {H : Hp} (h : rdS K (seqM m1 m2) D σ H) : rdS K m1 { D with nx := rdS K m2 D } σ H := by
  obtain ⟨F, T, bx, s, r, fl, s', e, k⟩ := h
  obtain ⟨f, s1, e1, e⟩ := bind_ok e
  cases f with
  | nx =>
    refine ⟨F, T, bx, s, r, .nx, s1, e1, fun bx1 σ1 H1 x1 => ⟨F, T, bx1, s1, x1.rel, fl, s', e, ?_⟩⟩
    cases fl with
    | nx => exact fun bx2 σ2 H2 x2 => k bx2 σ2 H2 (x1.trans x2)
    | bk => exact fun bx2 σ2 H2 x2 => k bx2 σ2 H2 (x1.trans x2)
    | ct => exact fun bx2 σ2 H2 x2 => k bx2 σ2 H2 (x1.trans x2)
    | rt t => exact fun v bx2 σ2 H2 x2 q => k v bx2 σ2 H2 (x1.trans x2) q
  | rt t => cases e; exact ⟨F, T, bx, s, r, .rt t, _, e1, k⟩
  | bk => cases e; exact ⟨F, T, bx, s, r, .bk, _, e1, k⟩
  | ct => cases e; exact ⟨F, T, bx, s, r, .ct, _, e1, k⟩
theorem sss_cons (h1 : SS X st m1) (h2 : SSs X rest m2) : SSs X (st :: rest) (seqM m1 m2) := PSs.weak (pss_cons h1 h2) fun _ _ _ h => h.seq
theorem sss_one (h1 : SS X st m1) : SSs X [st] m1 := pss_one h1
theorem ss_pass : SS X (.Pass pos) (pure .nx) := PS.weak ps_pass fun D σ H h => by
  obtain ⟨F, T, bx, s, r, fl, s', e, k⟩ := h
  cases e
  exact k bx σ H (Stp.refl r)
theorem ss_break : SS X (.Break pos) (pure .bk) := PS.weak ps_break fun D σ H h => by
  obtain ⟨F, T, bx, s, r, fl, s', e, k⟩ := h
  cases e
  exact k bx σ H (Stp.refl r)
theorem ss_cont : SS X (.Continue pos) (pure .ct) := PS.weak ps_continue fun D σ H h => by
  obtain ⟨F, T, bx, s, r, fl, s', e, k⟩ := h
  cases e
  exact k bx σ H (Stp.refl r)
theorem ss_ret (ha : SE X a ma) : SS X (.Return (some a) pos) (ret ma) := PS.weak (ps_ret ha) fun D σ H h => by
  obtain ⟨F, T, bx, s, r, fl, s', e, k⟩ := h
  obtain ⟨t, s1, e1, e⟩ := bind_ok e
  cases e
  exact ⟨F, T, bx, s, r, t, _, e1, fun v bx' H' x q => k v bx' σ H' x q⟩
theorem ss_retN : SS X (.Return none pos) (ret (cst .non)) := PS.weak ps_retN fun D σ H h => by
  obtain ⟨F, T, bx, s, r, fl, s', e, k⟩ := h
  cases e
  exact k .non bx σ H (Stp.refl r) (Res.old Rep.mnon)
theorem ss_retV (i : Nat) {x : Str} {p : Pos} (hN : X.N[i]? = some x := by rfl) (hv : Vis X.env.scope x := by first | exact Or.inl rfl | exact Or.inr (Or.inl rfl) | exact Or.inr (Or.inr rfl)) (hd : (x == ("__debug__" : Str)) = false := by decide)
    (hcd : (x == ("__classdict__" : Str)) = false := by decide) : SS X (.Return (some (.Name x p)) pos) (retV i) := PS.weak (ps_ret (pe_var hN hv hd hcd)) fun D σ H h => by
  obtain ⟨F, T, bx, s, r, fl, s', e, k⟩ := h
  unfold retV at e
  split at e
  · rename_i d q
    cases e
    obtain ⟨v, q1, q2⟩ := r.sh i d q
    exact ⟨v, q1, k v bx σ H (Stp.refl r) (Res.old q2)⟩
  · rename_i d q
    cases e
    obtain ⟨a, xs, ds, o, e1, e2, e3, h, h1, h2, h3, h4⟩ := r.ow i d q
    have own : ∀ b, Own { s with env := s.env.set i none } σ b → Own s σ b ∧ b ≠ a := by
      rintro b ⟨j, d2, z1, z2⟩
      rcases set_look z1 with ⟨_, z⟩ | ⟨n, z⟩
      · cases z
      · exact ⟨⟨j, d2, z, z2⟩, fun e => n (r.inj j i _ _ a z q (e ▸ z2) e2)⟩
    have wf : ∀ b, Wf F { s with env := s.env.set i none } σ (a :: T) b → Wf F s σ T b := by
      intro b z
      rcases z with z | z | z
      · exact .inl z
      · exact .inr (.inl (own b z).1)
      · rcases List.mem_cons.mp z with z | z
        · exact .inr (.inl ⟨i, d, q, by rw [z]; exact e2⟩)
        · exact .inr (.inr z)
    have rel : Rel X.K F bx (a :: T) { s with env := s.env.set i none } σ H := by
      refine ⟨by simpa using r.len, r.w0, r.wb, fun j d2 p => ?_, fun j d2 p => ?_, fun j l d2 d3 b p1 p2 => ?_, r.box, r.fr, fun b z => ?_, r.nb, r.pre⟩
      · rcases set_look p with ⟨_, p⟩ | ⟨_, p⟩
        · cases p
        · obtain ⟨u, q1, q2⟩ := r.sh j d2 p
          exact ⟨u, q1, q2.less wf⟩
      · rcases set_look p with ⟨_, p⟩ | ⟨n, p⟩
        · cases p
        · obtain ⟨a', xs', ds', o', p1, p2, p3, p4, p5, p6, p7⟩ := r.ow j d2 p
          refine ⟨a', xs', ds', o', p1, p2, p3, p4.less wf, p5, fun z => ?_, p7⟩
          rcases List.mem_cons.mp z with z | z
          · exact n (r.inj j i _ _ a p q (z ▸ p2) e2)
          · exact p6 z
      · rcases set_look p1 with ⟨_, p1⟩ | ⟨_, p1⟩
        · cases p1
        · rcases set_look p2 with ⟨_, p2⟩ | ⟨_, p2⟩
          · cases p2
          · exact r.inj j l d2 d3 b p1 p2
      · rcases List.mem_cons.mp z with z | z
        · subst z
          exact ⟨h1, h3, h4, o, e3, e1.mut⟩
        · exact r.tmp b z
    refine ⟨_, e2, k (.ref a) bx σ H ⟨rel, fun d2 v2 h => h.less wf, fun _ h => h, fun _ _ h => h, fun _ _ _ h => h, fun _ h => List.mem_cons_of_mem _ h⟩ ?_⟩
    exact ⟨a, xs, ds, o, e1, rfl, e3, h.less wf, fun z => (own a z).2 rfl, h2⟩
  · cases e
theorem ss_drp (ha : SE X a ma) (hs : swapsWith a none pos.line X.env = pure false := by rfl) : SS X (.Expr a pos) (drp ma) := PS.weak (ps_expr ha hs) fun D σ H h => by
  obtain ⟨F, T, bx, s, r, fl, s', e, k⟩ := h
  obtain ⟨t, s1, e1, e⟩ := bind_ok e
  cases e
  exact ⟨F, T, bx, s, r, t, _, e1, fun v bx' H' x q => k bx' σ H' x.drop⟩
theorem rdS.ite {K : PySem.W.Frag} {D : Ends} {σ : St} {H : Hp} (h : rdS K (ifM na m1 m2) D σ H) : tIfS (rdB K na) (rdS K m1) (rdS K m2) D σ H := by
  obtain ⟨F, T, bx, s, r, fl, s', e, k⟩ := h
  obtain ⟨c, s1, e1, e⟩ := bind_ok e
  refine ⟨F, T, bx, s, r, c, s1, e1, fun bx1 H1 x1 => ?_⟩
  cases c with
  | true =>
    refine ⟨F, T, bx1, s1, x1.rel, fl, s', e, ?_⟩
    cases fl with
    | nx => exact fun bx2 σ2 H2 x2 => k bx2 σ2 H2 (x1.trans x2)
    | bk => exact fun bx2 σ2 H2 x2 => k bx2 σ2 H2 (x1.trans x2)
    | ct => exact fun bx2 σ2 H2 x2 => k bx2 σ2 H2 (x1.trans x2)
    | rt t => exact fun v bx2 σ2 H2 x2 q => k v bx2 σ2 H2 (x1.trans x2) q
  | false =>
    refine ⟨F, T, bx1, s1, x1.rel, fl, s', e, ?_⟩
    cases fl with
    | nx => exact fun bx2 σ2 H2 x2 => k bx2 σ2 H2 (x1.trans x2)
    | bk => exact fun bx2 σ2 H2 x2 => k bx2 σ2 H2 (x1.trans x2)
    | ct => exact fun bx2 σ2 H2 x2 => k bx2 σ2 H2 (x1.trans x2)
    | rt t => exact fun v bx2 σ2 H2 x2 q => k v bx2 σ2 H2 (x1.trans x2) q
theorem ss_if (hc : SB X c na) (h1 : SSs X A m1) (h2 : SSs X B m2) : SS X (.If c A B pos) (ifM na m1 m2) := PS.weak (ps_if hc h1 h2) fun _ _ _ h => h.ite
theorem putv_ok {i : Nat} {t : DB} {s s' : S} {fl : Fl} (h : putv i t s = .ok fl s') : fl = .nx ∧ i < s.env.length ∧ s' = { s with env := s.env.set i (some t) } := by
  unfold putv at h
  split at h
  · rename_i c; cases h; exact ⟨rfl, c, rfl⟩
  · cases h
theorem ss_set {i : Nat} {x : Str} {pos' : Pos} (hN : X.N.Nodup) (hi : X.N[i]? = some x) (hx : Loc X.env.scope x) (he : SE X a ma) (hs : swapsWith a (some (.Name x pos')) pos.line X.env = pure false := by rfl)
    (hf : X.fn x = true ∨ X.env.scope.names.lookup x = some .local := by first | exact .inl rfl | exact .inr rfl | assumption) : SS X (.Assign [.Name x pos'] a pos) (setv i ma) :=
  PS.weak (ps_set hN hi hx he hs hf) fun D σ H h => by
    obtain ⟨F, T, bx, s, r, fl, s', e, k⟩ := h
    obtain ⟨t, s1, e1, e⟩ := bind_ok e
    obtain ⟨rfl, hlt, rfl⟩ := putv_ok e
    exact ⟨F, T, bx, s, r, t, s1, e1, fun v bx' H' x q => k bx' _ H' (x.put q hlt)⟩
theorem ss_par {i j : Nat} {x y : Str} {px py pt : Pos} {kt k2 : Nat} {pt2 : Pos} (hc : X.calm = true) (hN : X.N.Nodup) (hi : X.N[i]? = some x) (hj : X.N[j]? = some y) (hij : i ≠ j)
    (hx : X.env.scope.names.lookup x = some .local) (hy : X.env.scope.names.lookup y = some .local) (ha : SE X a ma) (hb : SE X b mb)
    (hw : swappedStores [.Tuple [.Name x px, .Name y py] kt pt] (.Tuple [a, b] k2 pt2) X.env = pure (some [x, y]))
    (hs : swapsWithSole [.Tuple [.Name x px, .Name y py] kt pt] (.Tuple [a, b] k2 pt2) pos.line X.env = pure false := by rfl)
    (hs1 : starEach [a, b] X.env = (false, eval a X.env) :: starEach [b] X.env := by rfl) (hs2 : starEach [b] X.env = (false, eval b X.env) :: starEach [] X.env := by rfl) :
    SS X (.Assign [.Tuple [.Name x px, .Name y py] kt pt] (.Tuple [a, b] k2 pt2) pos) (par2 i j ma mb) :=
  PS.weak (ps_par hc hN hi hj hij hx hy (pa_cons ha (pa_cons hb pa_nil hs2) hs1) hw hs) fun D σ H h => by
    obtain ⟨F, T, bx, s, r, fl, s', e, k⟩ := h
    obtain ⟨t, s1, e1, e⟩ := bind_ok e
    obtain ⟨u, s2, e2, e⟩ := bind_ok e
    obtain ⟨f3, s3, e3, e⟩ := bind_ok e
    obtain ⟨_, h3, hs3⟩ := putv_ok e3
    obtain ⟨rfl, h4, rfl⟩ := putv_ok e
    refine ⟨F, T, bx, s, r, t, s1, e1, fun v bx1 H1 x1 q1 => ⟨F, tmpOf t v T, bx1, s1, x1.rel, u, s2, e2, fun w bx2 H2 x2 q2 => ⟨v, w, rfl, ?_⟩⟩⟩
    subst hs3
    have x3 := x2.put q2 h3
    have q3 := q1.to x3
    have x4 := (x1.trans x3).put q3 h4
    rw [List.set_comm _ _ hij]
    exact k bx2 _ H2 x4
theorem sg_nm {i : Nat} {x : Str} (hN : X.N.Nodup) (hi : X.N[i]? = some x) (hx : Loc X.env.scope x) (hf : X.fn x = true ∨ X.env.scope.names.lookup x = some .local := by first | exact .inl rfl | exact .inr rfl | assumption) : SG X (.Name x pos) (gnm i) [i] :=
  PG.weak (pg_name hN hi hx hf) fun v σ H Q h => by
    obtain ⟨F, T, bx, s, d, r, q, s', e, k⟩ := h
    unfold gnm at e
    split at e
    · rename_i c
      cases e
      exact k bx _ H ((Stp.refl r).put (t := (d, false)) (v := v) q c) (fun j hj => List.getElem?_set_ne (fun e => hj (by rw [e]; exact List.mem_cons_self))) (List.length_set ..)
    · cases e
theorem sgs_nil : SGs X [] gnil [] := PGs.weak pgs_nil fun v σ H Q h => by
  obtain ⟨F, T, bx, s, ds, r, q, s', e, k⟩ := h
  cases ds with
  | nil => cases e; exact ⟨q.unnil, k bx σ H (Stp.refl r) (fun _ _ => rfl) rfl⟩
  | cons d ds => cases e
theorem sgs_cons {es : List Expr} {g : D → M Unit} {gs : List D → M Unit} {w1 w2 : List Nat} (h1 : SG X a g w1) (h2 : SGs X es gs w2) (hs : (assignEach (a :: es) X.env).map (·.2) = assign a X.env :: (assignEach es X.env).map (·.2) := by rfl) : SGs X (a :: es) (gcons g gs) (w1 ++ w2) :=
  PGs.weak (pgs_cons h1 h2 hs) fun vs σ H Q h => by
    obtain ⟨F, T, bx, s, ds, r, q, s', e, k⟩ := h
    cases ds with
    | nil => cases e
    | cons d ds =>
      obtain ⟨_, s1, e1, e⟩ := bind_ok (m := g d) (f := fun _ => gs ds) e
      obtain ⟨v, vs', rfl, q1, q2⟩ := q.uncons
      exact ⟨v, vs', rfl, F, T, bx, s, d, r, q1, s1, e1, fun bx1 σ1 H1 x1 y1 l1 => ⟨F, T, bx1, s1, ds, x1.rel, x1.trL _ _ q2, s', e, fun bx2 σ2 H2 x2 y2 l2 => k bx2 σ2 H2 (x1.trans x2) (fun j hj => (y2 j fun z => hj (List.mem_append_right _ z)).trans (y1 j fun z => hj (List.mem_append_left _ z))) (l2.trans l1)⟩⟩
theorem sg_tp {es : List Expr} {k n : Nat} {gs : List D → M Unit} {ws : List Nat} (hc : X.calm = true) (h : SGs X es gs ws) (hn : (assignEach es X.env).length = n := by rfl) (hst : (assignEach es X.env).findIdx? (·.1) = none := by rfl) : SG X (.Tuple es k pos) (gtp n gs) ws :=
  PG.weak (pg_tup hc h hn hst) fun v σ H Q h => by
    obtain ⟨F, T, bx, s, d, r, q, s', e, k⟩ := h
    cases d with
    | tup ds =>
      have e : (if ds.length = n then gs ds else lift none) s = R.ok () s' := e
      split at e
      · rename_i c
        obtain ⟨a, xs, rfl, q1, q2⟩ := q.tup
        exact ⟨a, xs, rfl, q1, by rw [← q2.length]; exact c, F, T, bx, s, ds, r, q2, s', e, k⟩
      · cases e
    | _ => cases e
theorem ss_asg {tg : Expr} {g : D → M Unit} {ws : List Nat} (he : SE X a ma) (hg : SG X tg g ws) (hs : swapsWithSole [tg] a pos.line X.env = pure false := by rfl) (hw : swappedStores [tg] a X.env = pure none := by rfl)
    (h1 : (assignEach [tg] X.env).map (·.2) = [assign tg X.env] := by rfl) : SS X (.Assign [tg] a pos) (asg g ma) :=
  PS.weak (ps_asg he.d hg hs hw h1) fun D σ H h => by
    obtain ⟨F, T, bx, s, r, fl, s', e, k⟩ := h
    obtain ⟨t, s1, e1, e⟩ := bind_ok e
    obtain ⟨_, s2, e2, e⟩ := bind_ok e
    cases e
    exact ⟨F, T, bx, s, r, t.1, s1, by rw [bind_run, e1]; rfl, fun v bx1 H1 x1 q1 => ⟨F, T, bx1, s1, t.1, x1.rel, q1, _, e2, fun bx2 σ2 H2 x2 _ _ => k bx2 σ2 H2 (x1.trans x2)⟩⟩
end
end L2.Pd
set_option maxHeartbeats 4000000
namespace L2.Pd
open PySem PySem.Spec PyProof.Rows

inductive RF where
  | ok (t : DB) (st : List (List Int))
  | ex (e : Exn) (st : List (List Int))
  | no
abbrev Fn := List D → List (List Int) → RF
def runF (fn : Fn) (ds : List D) : M DB := fun s => match fn ds s.st with
  | .ok t st => .ok t { s with st := st }
  | .ex e st => .ex e { s with st := st }
  | .no => .no
def callF (fn : Fn) (dd : List D) (mr : M (List D)) : M DB := do
  let ds ← mr
  runF fn (ds ++ dd)
/-- a def: n names, the body -/
def mkFn (p n : Nat) (m : M Fl) : Fn := fun ds st => if ds.length = p then (match m ⟨ds.map (fun d => some (d, false)) ++ List.replicate (n - ds.length) none, st⟩ with
  | .ok (.rt t) s => .ok t s.st
  | .ok .nx s => .ok (.non, false) s.st
  | .ex e s => .ex e s.st
  | _ => .no) else .no
def Ar (fn : Fn) (n : Nat) : Prop := ∀ ds st t st', fn ds st = .ok t st' → ds.length = n
theorem mkFn_ar {p n : Nat} {m : M Fl} : Ar (mkFn p n m) p := fun ds st t st' h => by
  unfold mkFn at h
  split at h
  · assumption
  · cases h

structure Aft (K : PySem.W.Frag) (bx : Bxs) (W : Wd) (H : Hp) (t : DB) (bx' : Bxs) (st' : List (List Int)) (H' : Hp) (v : V) : Prop where
  box : Boxes K bx' st' H'
  pre : ∀ (n : Nat) (a : Addr), bx[n]? = some a → bx'[n]? = some a
  nb : ∀ a ∈ bx', a ∈ bx ∨ H a = none
  fr : ∀ a o, H a = some o → a ∉ bx → Sty o (H' a)
  res : match t.2 with
    | true => ∃ (a : Addr) (xs : List V) (ds : List D) (o : HO), Hld t.1 ds xs o ∧ v = .ref a ∧ H a = none ∧ H' a = some o ∧ a ∉ bx' ∧ RepL K bx' (fun b => W b ∨ b = a) H' ds xs
    | false => Rep K bx' W H' t.1 v
def spF (K : PySem.W.Frag) (n : Nat) (fn : Fn) : Sp := fun vs H Q _ => vs.length = n ∧ ∃ (bx : Bxs) (W : Wd) (ds : List D) (st : List (List Int)), RepL K bx W H ds vs ∧ Boxes K bx st H ∧ (∀ a ∈ bx, ¬ W a) ∧ (∀ a, W a → H a ≠ none) ∧
  ∃ t st', fn ds st = .ok t st' ∧ ∀ v bx' H', Aft K bx W H t bx' st' H' v → Q v H'

section
variable {K : PySem.W.Frag} {F : Fm} {T : List Addr} {bx bx' : Bxs} {s : S} {σ : St} {H H' : Hp} {t : DB} {v : V} {st' : List (List Int)}
theorem Aft.tk (x : Aft K bx (Wf F s σ T) H t bx' st' H' v) : ∀ a, H' a = none → H a = none := fun a h => by
  cases q : H a with
  | none => rfl
  | some o =>
    by_cases hb : a ∈ bx
    · obtain ⟨n, e⟩ := List.mem_iff_getElem?.mp hb
      exact absurd h (x.box.some (List.mem_of_getElem? (x.pre n a e)))
    · exact absurd h (x.fr a o q hb).isSome
theorem own_st {s : S} {st : List (List Int)} {σ : St} {a : Addr} (h : Own { s with st := st } σ a) : Own s σ a := h
/-- behind a call -/
theorem Rel.call (r : Rel K F bx T s σ H) (x : Aft K bx (Wf F s σ T) H t bx' st' H' v) : Stp K F T bx s σ H bx' (tmpOf t v T) { s with st := st' } σ H' ∧ Res K F T bx' { s with st := st' } σ H' t v := by
  have bxl : ∀ a o, H a = some o → a ∈ bx → ∃ xs, o = .lst xs := fun a o e hb => by
    obtain ⟨n, e'⟩ := List.mem_iff_getElem?.mp hb
    obtain ⟨ns, _, q⟩ := r.box.at_ n a e'
    rw [e] at q; cases q
    exact ⟨_, rfl⟩
  have keep : Keep bx (Wf F s σ T) H H' := fun a o e h => x.fr a o e fun hb => by
    obtain ⟨xs, q⟩ := bxl a o e hb
    exact (h (.inl ⟨xs, q⟩)).2 hb
  have new : ∀ a ∈ tmpOf t v T, a ∈ T ∨ (H a = none ∧ a ∉ bx' ∧ ∃ o, H' a = some o ∧ Mut o) := fun a ha => by
    obtain ⟨d, fr⟩ := t
    cases fr with
    | false => exact .inl ha
    | true =>
      obtain ⟨b, xs, ds, o, e1, e2, e3, e4, e5, _⟩ := x.res
      have e2 : v = .ref b := e2
      subst e2
      rcases List.mem_cons.mp (show a ∈ b :: T from ha) with rfl | z
      · exact .inr ⟨e3, e5, o, e4, e1.mut⟩
      · exact .inl z
  have wf : ∀ a, Wf F { s with st := st' } σ (tmpOf t v T) a → Wf F s σ T a ∨ H a = none := fun a z => by
    rcases z with z | z | z
    · exact .inl (.inl z)
    · exact .inl (.inr (.inl (own_st z)))
    · rcases new a z with z | z
      · exact .inl (.inr (.inr z))
      · exact .inr z.1
  have nbx : ∀ a, a ∉ bx → H a ≠ none → a ∉ bx' := fun a h1 h2 z => (x.nb a z).elim h1 h2
  have rel : Rel K F bx' (tmpOf t v T) { s with st := st' } σ H' := by
    refine ⟨r.len, r.w0, fun a h => ?_, fun i d e => ?_, fun i d e => ?_, r.inj, x.box, fun a o e h => ?_, fun a h => ?_, fun a h => ?_, fun n a e => x.pre n a (r.pre n a e)⟩
    · rcases x.nb a h with z | z
      · exact r.wb a z
      · exact fun q => r.wSome (T := T) (.inl q) z
    · obtain ⟨u, e1, h⟩ := r.sh i d e
      exact ⟨u, e1, Rep.to keep wf x.nb x.pre _ _ h⟩
    · obtain ⟨a, xs, ds, o, e1, e2, e3, h, h1, h2, h3, h4⟩ := r.ow i d e
      refine ⟨a, xs, ds, o, e1, e2, (x.fr a _ e3 h3).eq (Mut.nt e1.mut), RepL.to keep wf x.nb x.pre _ _ h, h1, fun z => ?_, nbx a h3 (by rw [e3]; exact fun z => nomatch z), h4⟩
      rcases new a z with z | z
      · exact h2 z
      · rw [z.1] at e3; cases e3
    · have h' : a ∉ bx := fun z => by
        obtain ⟨n, e'⟩ := List.mem_iff_getElem?.mp z
        exact h (List.mem_of_getElem? (x.pre n a e'))
      exact (r.fr a o e h').trans fun u q => x.fr a u q h'
    · rcases new a h with z | ⟨z1, z2, z3⟩
      · obtain ⟨h1, h2, h3, o, h4, h5⟩ := r.tmp a z
        exact ⟨h1, nbx a h2 (by rw [h4]; exact fun z => nomatch z), h3, o, (x.fr a _ h4 h2).eq (Mut.nt h5), h5⟩
      · exact ⟨fun q => r.wSome (T := T) (.inl q) z1, z2, r.entryNone z1, z3⟩
    · rcases x.nb a h with z | z
      · exact r.nb a z
      · exact .inr (r.entryNone z)
  refine ⟨⟨rel, fun d u h => Rep.to keep wf x.nb x.pre d u h, x.tk, x.pre, fun a h o e => (x.fr a o e (r.tmp a h).2.1).eq (by obtain ⟨_, _, _, o', e', m⟩ := r.tmp a h; rw [e] at e'; cases e'; exact Mut.nt m), tmpOf.sub⟩, ?_⟩
  obtain ⟨d, fr⟩ := t
  cases fr with
  | false => exact x.res
  | true =>
    obtain ⟨b, xs, ds, o, e1, e2, e3, e4, e5, h⟩ := x.res
    refine ⟨b, xs, ds, o, e1, e2, e4, h.less fun c z => ?_, fun z => ?_, fun z => ?_⟩
    · rcases z with z | z | z
      · exact .inl (.inl z)
      · exact .inl (.inr (.inl (own_st z)))
      · rcases List.mem_cons.mp z with z | z
        · exact .inr z
        · exact .inl (.inr (.inr z))
    · exact r.wSome (T := T) (.inr (.inl (own_st z))) e3
    · exact r.wSome (.inr (.inr z)) e3
end

structure FnOkG (P : Program) (w : World) (K : PySem.W.Frag) (mg : Str → Option Value) (base : Heap) (CX : CXT) (k : Nat) (f : Addr) (fd : FuncData) (ps : List Str) (sp : Sp) : Prop where
  arity : ∀ {vs : List V} {H : Hp} {Q : VK} {E : XK}, sp vs H Q E → vs.length = ps.length
  runs : ∀ {A : Around} {outer : List Env} {s : Shared} {H : Hp} {args : Args} {us : List Value} {vs : List V} {Q : VK} {E : XK},
    A.guards = some [] → Room k A → Env0 P w K mg base A outer s H → BindsTo s fd args (ps.zip us) → Vals vs us → sp vs H Q E → codeAny (model P w) A (.call (.ref f) args) (CR CX outer P w H s Q E) s
/-- the call of such a def from within another -/
theorem called {X : Cx} {k : Nat} {f : Addr} {fd : FuncData} {ps : List Str} {sp : Sp} {pins : List (Addr × Obj)} {σ : St} {H : Hp} {s : Shared} {Q : VK} {given us : List Value} {kw : List (Str × Value)} {vs : List V}
    (F : FnOkG X.prog X.w X.K X.mg X.base CX0 k f fd ps sp) (hgd : X.A.guards = some []) (hr : Room k X.A) (I : Inv X pins σ H s) (bt : BindsTo s fd ⟨given, kw⟩ (ps.zip us)) (r : Vals vs us) (h : sp vs H Q E0) :
    wpAny (model X.prog X.w) X.A (call (.ref f) given kw) (EP X pins σ Q) X.xe s := by
  apply wpAny_call
  refine codeAny_mono (F.runs hgd hr I.env0 bt r h) ?_
  intro out t q
  match out, q with
  | .ok (.ret u), q => exact I.after q
  | .ok .next, q => exact q.elim
  | .ok .brk, q => exact q.elim
  | .ok .cont, q => exact q.elim
  | .error e, q => exact pass0 pins σ H s e t I q
/-- the def's frame is entered: what its body's reading asks is what the call asks -/
theorem entered {CX : CXT} {P : Program} {w : World} {K : PySem.W.Frag} {mg : Str → Option Value} {base : Heap} {k : Nat} {f : Addr} {name qual : Str} {params : Arguments} {body : List Stmt} {scope : Scope} {dV kV doc pm cdv ct oc : Value} {an od : Option Addr} {osl : Array (Option Value)}
    {N ps : List Str} {A : Around} {outer : List Env} {s : Shared} {H : Hp} {args : Args} {us : List Value} {vs : List V} {Q : VK} {E : XK} {t : TS}
    (at_ : K.lookup f = some ⟨oc, od, .func (PySem.W.fnOf name qual params body scope dV kV doc pm an cdv ct), osl⟩) (code : PySem.W.codeIn K cdv qual = true) (S : FnScope N ps scope) (room : Room (k + 1) A)
    (e0 : Env0 P w K mg base A outer s H) (bt : BindsTo s (PySem.W.fnOf name qual params body scope dV kV doc pm an cdv ct) args (ps.zip us)) (r : Vals vs us) (hl : vs.length = ps.length)
    (walk : PSs (cxOf CX P w K mg base N qual scope f cdv A outer s H E) body t) (h : t { nx := fun _ H' => Q .non H', rt := Q } (start N vs) H) :
    codeAny (model P w) A (.call (.ref f) args) (CR CX outer P w H s Q E) s := by
  have stands : ∀ {b : Addr} {o : Obj}, base.get? b = some o → s.heap.get? b = some o := fun e => (e0.bs _ _ e).1
  have kin := e0.mod.kin.keeps (h' := s.heap) fun _ _ => stands
  have lim := e0.mod.nolimit.keeps (h' := s.heap) fun _ _ => stands
  apply codeAny_call_function room.depth (kin _ _ at_) rfl S.co S.gen rfl (PySem.W.codeRec_of kin code)
  apply bt
  refine wpAny_newFunctionEnv_cells S.kind (fun y hy => ?_) ?_
  · have hp : y.1 ∈ ps := (List.of_mem_zip (show (y.1, y.2) ∈ ps.zip us from hy)).1
    exact (S.par y.1 hp).imp id fun c => ⟨c, PySem.W.cellsFrom_some _ _ _ (.inl c)⟩
  intro env eEnv s1 x
  rw [eEnv]
  refine ⟨lim.keeps x.toInCall.keep, codeAny_func ?_⟩
  have begun := inv_start (CX := CX) (f := f) (cd := cdv) (E := E) (qual := qual) S room.hd e0 hl r (eEnv ▸ x)
  have done : ∀ {σ' : St} {H' : Hp} {v : V} {u : Value} {s' : Shared}, Inv (cxOf CX P w K mg base N qual scope f cdv A outer s H E) [] σ' H' s' → RelV v u → Q v H' → CE outer P w H s Q u s' := by
    intro σ' H' v u s' J hv hq
    exact ⟨v, H', J.os, J.bare, J.base, J.hok, hv, hq⟩
  refine wpAny_mono (walk.run [] s1 (start N vs) H _ begun h) ?_ (fun _ _ z => z)
  intro out s' q
  match out, q with
  | .ret _, ⟨_, _, _, J, hv, hq⟩ => exact done J hv hq
  | .next, ⟨_, _, J, hq⟩ => exact done J (v := .non) (u := .none) rfl hq
  | .brk, ⟨_, _, _, z⟩ => exact z.elim
  | .cont, ⟨_, _, _, z⟩ => exact z.elim
/-- a def that the text may call by place: dd: the defaults that fill up -/
structure DefC (P : Program) (w : World) (K : PySem.W.Frag) (mg : Str → Option Value) (base : Heap) (x : Str) (k n : Nat) (fn : Fn) (dd : List D) : Prop where
  ex : ∃ (f : Addr) (fd : FuncData) (ps : List Str) (ds : List Value) (dvs : List V), FnOkG P w K mg base CX0 k f fd ps (spF K n fn) ∧ mg x = some (.ref f) ∧ PySem.W.keepIn K (.ref f) = true ∧ Binds K fd ps ds ∧ Vals dvs ds ∧ ∀ bx W H, RepL K bx W H dd dvs
  ar : Ar fn n
section
variable {X : Cx} {x : Str} {k n : Nat} {fn : Fn} {dd : List D} {e : Expr} {es : List Expr} {mr : M (List D)} {p pos : Pos}
theorem rdF {K : PySem.W.Frag} {σ : St} {H : Hp} {Q : VK} {dvs : List V} (hd : ∀ bx W H, RepL K bx W H dd dvs) (hn : Ar fn n) (h : rdT K (callF fn dd mr) σ H Q) : rdA K mr σ H fun vs H1 => spF K n fn (vs ++ dvs) H1 Q E0 := by
  obtain ⟨F, T, bx, s, r, t, s', e, k⟩ := h
  obtain ⟨ds, s1, e1, e⟩ := bind_ok e
  refine ⟨F, T, bx, s, r, ds, s1, e1, fun vs bx1 H1 x1 q1 => ?_⟩
  have q2 := q1.append (hd bx1 (Wf F s1 σ T) H1)
  have ef : runF fn (ds ++ dd) s1 = .ok t s' := e
  unfold runF at ef
  cases q : fn (ds ++ dd) s1.st with
  | ok t' st' =>
    rw [q] at ef
    cases ef
    refine ⟨by rw [← q2.length]; exact hn _ _ _ _ q, bx1, Wf F s1 σ T, ds ++ dd, s1.st, q2, x1.rel.box, fun a ha => ?_, fun a => x1.rel.wSome, _, st', q, fun v bx2 H2 y => ?_⟩
    · intro z
      rcases z with z | ⟨i, d, z1, z2⟩ | z
      · exact x1.rel.wb a ha z
      · obtain ⟨b, _, _, _, _, p1, _, _, _, _, p2, _⟩ := x1.rel.ow i d z1
        rw [z2] at p1; cases p1
        exact p2 ha
      · exact (x1.rel.tmp a z).2.1 ha
    · obtain ⟨x2, q3⟩ := x1.rel.call y
      exact k v bx2 H2 (x1.trans x2) q3
  | ex _ _ => rw [q] at ef; cases ef
  | no => rw [q] at ef; cases ef
theorem se_call (G : DefC X.prog X.w X.K X.mg X.base x k n fn dd) (hgd : X.A.guards = some []) (hr : Room k X.A) (hg : Gl X x) (ha : SA X (e :: es) mr) (hdb : (x == ("__debug__" : Str)) = false := by decide)
    (he : starEach (e :: es) X.env = (false, eval e X.env) :: starEach es X.env := by rfl) (hpl : (backTo pos (starEach es X.env)).any (·.1) = false := by rfl) : SE X (.Call (.Name x p) (e :: es) [] pos) (callF fn dd mr) := by
  obtain ⟨f, fd, ps, ds, dvs, F, hm, hk, hb, hd, hdd⟩ := G.ex
  constructor
  intro pins s σ H Q I h
  apply wpAny_Call_Name_kw
  apply ld_glob I hg hm _ hdb
  refine PySem.W.callWith_K I.ok.mod.kin hk ?_ he hpl
  refine thn (ha.run pos pins s σ H _ I (rdF hdd G.ar h)) ?_
  rintro us t ⟨vs, H1, J, r, q⟩
  have both := r.append hd
  exact ⟨J.kIn, called F hgd hr J (hb t us J.kIn (by rw [← both.length]; exact F.arity q)) both q⟩
theorem se_call0 (G : DefC X.prog X.w X.K X.mg X.base x k n fn dd) (hgd : X.A.guards = some []) (hr : Room k X.A) (hg : Gl X x) (hdb : (x == ("__debug__" : Str)) = false := by decide) : SE X (.Call (.Name x p) [] [] pos) (callF fn dd nilA) := by
  obtain ⟨f, fd, ps, ds, dvs, F, hm, hk, hb, hd, hdd⟩ := G.ex
  constructor
  intro pins s σ H Q I h
  obtain ⟨F', T, bx, s0, r, args, s1, e, go⟩ := rdF hdd G.ar h
  cases e
  have q := go [] bx H (Stp.refl r) .nil
  apply wpAny_Call_Name_kw
  apply ld_glob I hg hm _ hdb
  exact PySem.W.callWith_K0 I.kIn hk (called F hgd hr I (hb s [] I.kIn (by rw [List.nil_append, ← hd.length]; exact F.arity q)) hd q)
end

section
variable {P : Program} {w : World} {K : PySem.W.Frag} {mg : Str → Option Value} {base : Heap}
theorem rel_start {N : List Str} {n : Nat} {ds : List D} {st : List (List Int)} {vs : List V} {bx : Bxs} {W : Wd} {H : Hp} (hN : N.length = n) (r : RepL K bx W H ds vs) (B : Boxes K bx st H) (h1 : ∀ a ∈ bx, ¬ W a) (h2 : ∀ a, W a → H a ≠ none) :
    Rel K ⟨W, H, bx⟩ bx [] ⟨ds.map (fun d => some (d, false)) ++ List.replicate (n - ds.length) none, st⟩ (start N vs) H := by
  have hl := r.length
  have at_ : ∀ (i : Nat) (d : D) (b : Bool), (ds.map (fun d => some (d, false)) ++ List.replicate (n - ds.length) none)[i]? = some (some (d, b)) → b = false ∧ ds[i]? = some d := by
    intro i d b e
    by_cases hi : i < ds.length
    · rw [List.getElem?_append_left (by simpa using hi), List.getElem?_map] at e
      cases q : ds[i]? with
      | none => rw [q] at e; cases e
      | some x => rw [q] at e; cases e; exact ⟨rfl, rfl⟩
    · rw [List.getElem?_append_right (by simpa using hi), List.getElem?_replicate] at e
      split at e <;> cases e
  have wf : ∀ a, Wf ⟨W, H, bx⟩ ⟨ds.map (fun d => some (d, false)) ++ List.replicate (n - ds.length) none, st⟩ (start N vs) [] a → W a := by
    rintro a (z | ⟨i, d, z, _⟩ | z)
    · exact z
    · cases (at_ i d true z).1
    · cases z
  refine ⟨by simp [start, hl, hN], h2, h1, fun i d e => ?_, fun i d e => (nomatch (at_ i d true e).1), fun i j d e a z => (nomatch (at_ i d true z).1), B, fun a o e _ => .inl e, fun a z => (nomatch z), fun a h => .inl h, fun _ _ h => h⟩
  obtain ⟨v, e1, q⟩ := r.get (at_ i d false e).2
  refine ⟨v, ?_, q.less wf⟩
  have hi : i < vs.length := (List.getElem?_eq_some_iff.mp e1).1
  unfold start
  rw [List.getElem?_append_left (by simpa using hi), List.getElem?_map, e1]
  rfl
theorem aft_of {bx bx' : Bxs} {W : Wd} {H H' : Hp} {s s' : S} {σ σ' : St} {t : DB} {v : V} (x : Stp K ⟨W, H, bx⟩ [] bx s σ H bx' (tmpOf t v []) s' σ' H') (q : Res K ⟨W, H, bx⟩ [] bx' s' σ' H' t v) : Aft K bx W H t bx' s'.st H' v := by
  refine ⟨x.rel.box, x.pre, x.rel.nb, fun a o e h => ?_, ?_⟩
  · by_cases hb : a ∈ bx'
    · rcases x.rel.nb a hb with z | z
      · exact absurd z h
      · have z : H a = none := z
        rw [e] at z; cases z
    · exact x.rel.fr a o e hb
  · obtain ⟨d, fr⟩ := t
    cases fr with
    | false => exact Rep.less (fun a z => .inl z) (show Rep K bx' (Wf ⟨W, H, bx⟩ s' σ' []) H' d v from q)
    | true =>
      obtain ⟨a, xs, ds, o, e1, e2, e3, h, hn, _⟩ := q
      have e2 : v = .ref a := e2
      subst e2
      obtain ⟨h1, h2, h3, _⟩ := x.rel.tmp a (show a ∈ [a] from List.mem_cons_self)
      exact ⟨a, xs, ds, o, e1, rfl, h3, e3, h2, h.less fun b z => z.elim .inl fun e => .inr (.inr (by rw [e]; exact List.mem_cons_self))⟩
/-- THE RULE for a def -/
theorem fnok {x qual : Str} {params : Arguments} {body : List Stmt} {scope : Scope} {dvs : List V} {kws : List (Str × V)} {f : Addr} {fd : FuncData} {N ps : List Str} {k : Nat} {m : M Fl} (Fd : FunD K x qual params body scope dvs kws f fd) (S : FnScope N ps scope)
    (hbody : ∀ (cdv : Value) (A : Around) (outer : List Env) (s : Shared) (H : Hp) (E : XK), fd.code = cdv → (A.deeper (envOfC qual scope s.heap.objs.size f cdv)).guards = some [] → Room k (A.deeper (envOfC qual scope s.heap.objs.size f cdv)) →
      SSs (cxOf CX0 P w K mg base N qual scope f cdv A outer s H E).nox body m) : FnOkG P w K mg base CX0 (k + 1) f fd ps (spF K ps.length (mkFn ps.length N.length m)) := by
  obtain ⟨oc, od, dV, kV, doc, pm, an, cdv, ct, osl, rfl, lk, hcd, _, _⟩ := Fd.ex
  refine ⟨fun h => h.1, fun {A outer s H args us vs Q E} hgd hr e0 bt rv h => entered lk hcd S hr e0 bt rv h.1 (PSs.nox (hbody cdv A outer s H E rfl hgd (hr.deeper _))) ?_⟩
  obtain ⟨hl, bx, W, ds, st, r, B, h1, h2, t, st', e, kk⟩ := h
  refine ⟨⟨W, H, bx⟩, [], bx, _, rel_start (n := N.length) rfl r B h1 h2, ?_⟩
  unfold mkFn at e
  rw [if_pos (r.length.trans hl)] at e
  cases q : m ⟨ds.map (fun d => some (d, false)) ++ List.replicate (N.length - ds.length) none, st⟩ with
  | ok fl s' =>
    rw [q] at e
    refine ⟨fl, s', rfl, ?_⟩
    cases fl with
    | rt t' =>
      cases e
      exact fun v bx' σ' H' x q => kk v bx' H' (aft_of x q)
    | nx =>
      cases e
      exact fun bx' σ' H' x => kk .non bx' H' (aft_of (t := (.non, false)) x (Res.old Rep.mnon))
    | bk => cases e
    | ct => cases e
  | ex _ _ => rw [q] at e; cases e
  | no => rw [q] at e; cases e
end
end L2.Pd
set_option maxHeartbeats 4000000
namespace L2.Pd
open PySem PySem.Spec PyProof.Rows

/-- what stood at the frame's entry -/
def Fz (F : Fm) (H : Hp) : Prop := ∀ a o, F.H0 a = some o → a ∉ F.b0 → Sty o (H a)
theorem Rel.fz {K : PySem.W.Frag} {F : Fm} {T : List Addr} {bx : Bxs} {s : S} {σ : St} {H : Hp} (r : Rel K F bx T s σ H) : Fz F H := fun a o e h => r.fr a o e fun z => (r.nb a z).elim h fun q => by rw [e] at q; cases q
/-- J yields these data as long as data stand -/
def Yields (K : PySem.W.Frag) (F : Fm) (J : It) (bx : Bxs) (W : Wd) (H : Hp) (ds : List D) : Prop :=
  ∀ bx' W' H', (∀ d v, Rep K bx W H d v → Rep K bx' W' H' d v) → Fz F H' →
    (∀ i, i < ds.length → J.go i H' ∧ ∀ x H'', J.yld i H' x H'' → Grow H' H'' ∧ ∀ d, ds[i]? = some d → Rep K bx' W' H'' d x) ∧ J.stop ds.length H'
def rdI (K : PySem.W.Frag) (mi : M (List D)) : TI := fun σ H R => ∃ F T bx s, Rel K F bx T s σ H ∧ ∃ ds s', mi s = .ok ds s' ∧
  ∀ J bx' H', Stp K F T bx s σ H bx' T s' σ H' → Yields K F J bx' (Wf F s' σ T) H' ds → R J H'
def SI (X : Cx) (tg e : Expr) (mi : M (List D)) : Prop := PI X tg e (rdI X.K mi)
theorem PI.weak {X : Cx} {tg e : Expr} {t t' : TI} (h : PI X tg e t) (w : ∀ σ H R, t' σ H R → t σ H R) : PI X tg e t' := ⟨fun pins s σ H R I q => h.run pins s σ H R I (w _ _ _ q)⟩

def forL (g : D → M Unit) (b : M Fl) : List D → M Fl
  | [] => pure .nx
  | d :: ds => do
    g d
    let f ← b
    match f with
    | .nx => forL g b ds
    | .ct => forL g b ds
    | .bk => pure .nx
    | .rt t => pure (.rt t)
def forM' (mi : M (List D)) (g : D → M Unit) (b : M Fl) : M Fl := do
  let ds ← mi
  forL g b ds
def whileN (c : M Bool) (b : M Fl) : Nat → M Fl
  | 0 => fun _ => .no
  | n + 1 => do
    let x ← c
    if x then (do
      let f ← b
      match f with
      | .nx => whileN c b n
      | .ct => whileN c b n
      | .bk => pure .nx
      | .rt t => pure (.rt t)) else pure .nx
open Classical in
noncomputable def whileM (c : M Bool) (b : M Fl) : M Fl := fun s => if h : ∃ n fl s', whileN c b n s = .ok fl s' then whileN c b h.choose s else .no
theorem whileM_ok {c : M Bool} {b : M Fl} {s s' : S} {fl : Fl} (h : whileM c b s = .ok fl s') : ∃ n, whileN c b n s = .ok fl s' := by
  unfold whileM at h
  split at h
  · rename_i q; exact ⟨_, h⟩
  · cases h
theorem whileN_mono {c : M Bool} {b : M Fl} : ∀ {n : Nat} {s s' : S} {fl : Fl}, whileN c b n s = .ok fl s' → ∀ k, whileN c b (n + k) s = .ok fl s'
  | 0, _, _, _, h, _ => by cases h
  | n + 1, s, s', fl, h, k => by
    rw [show n + 1 + k = (n + k) + 1 by omega]
    obtain ⟨x, s1, e1, h⟩ := bind_ok h
    unfold whileN
    rw [bind_run, e1]
    cases x with
    | false => exact h
    | true =>
      obtain ⟨f, s2, e2, h⟩ := bind_ok h
      show (b >>= _) s1 = _
      rw [bind_run, e2]
      cases f with
      | nx => exact whileN_mono h k
      | ct => exact whileN_mono h k
      | bk => exact h
      | rt t => exact h
theorem whileM_of {c : M Bool} {b : M Fl} {n : Nat} {s s' : S} {fl : Fl} (h : whileN c b n s = .ok fl s') : whileM c b s = .ok fl s' := by
  have q : ∃ n fl s', whileN c b n s = .ok fl s' := ⟨n, fl, s', h⟩
  unfold whileM
  rw [dif_pos q]
  obtain ⟨fl2, s2, h2⟩ := q.choose_spec
  have h3 := whileN_mono h q.choose
  have h4 := whileN_mono h2 n
  rw [Nat.add_comm] at h4
  rw [h3] at h4
  rw [h2, ← h4]
/-- one turn of a while -/
theorem whileM_true {c : M Bool} {b : M Fl} {s s1 s2 s' : S} {fl : Fl} (h1 : c s = .ok true s1) (h2 : b s1 = .ok .nx s2) (h3 : whileM c b s2 = .ok fl s') : whileM c b s = .ok fl s' := by
  obtain ⟨n, h⟩ := whileM_ok h3
  refine whileM_of (n := n + 1) ?_
  unfold whileN
  rw [bind_run, h1]
  show (b >>= _) s1 = _
  rw [bind_run, h2]
  exact h
theorem whileM_false {c : M Bool} {b : M Fl} {s s1 : S} (h1 : c s = .ok false s1) : whileM c b s = .ok .nx s1 := by
  refine whileM_of (n := 1) ?_
  unfold whileN
  rw [bind_run, h1]
  rfl

section
variable {K : PySem.W.Frag}
theorem rdS.any {F : Fm} {T : List Addr} {bx : Bxs} {s : S} {σ : St} {H : Hp} {m : M Fl} {fl : Fl} {s' : S} {D : Ends} {bx0 : Bxs} {s0 : S} {σ0 : St} {H0 : Hp} (x0 : Stp K F T bx0 s0 σ0 H0 bx T s σ H) (e : m s = .ok fl s')
    (k : match fl with
      | .nx => ∀ bx' σ' H', Stp K F T bx0 s0 σ0 H0 bx' T s' σ' H' → D.nx σ' H'
      | .bk => ∀ bx' σ' H', Stp K F T bx0 s0 σ0 H0 bx' T s' σ' H' → D.bk σ' H'
      | .ct => ∀ bx' σ' H', Stp K F T bx0 s0 σ0 H0 bx' T s' σ' H' → D.ct σ' H'
      | .rt t => ∀ v bx' σ' H', Stp K F T bx0 s0 σ0 H0 bx' (tmpOf t v T) s' σ' H' → Res K F T bx' s' σ' H' t v → D.rt v H') : rdS K m D σ H := by
  refine ⟨F, T, bx, s, x0.rel, fl, s', e, ?_⟩
  cases fl with
  | nx => exact fun bx2 σ2 H2 x2 => k bx2 σ2 H2 (x0.trans x2)
  | bk => exact fun bx2 σ2 H2 x2 => k bx2 σ2 H2 (x0.trans x2)
  | ct => exact fun bx2 σ2 H2 x2 => k bx2 σ2 H2 (x0.trans x2)
  | rt t => exact fun v bx2 σ2 H2 x2 q => k v bx2 σ2 H2 (x0.trans x2) q
theorem rdS.for_ {ws : List Nat} {mi : M (List D)} {g : D → M Unit} {b : M Fl} {D : Ends} {σ : St} {H : Hp} (h : rdS K (forM' mi g b) D σ H) : tFor (rdI K mi) (rdG K g ws) (rdS K b) D σ H := by
  obtain ⟨F, T, bx, s, r, fl, s', e, k⟩ := h
  obtain ⟨ds, s1, e1, e⟩ := bind_ok e
  refine ⟨F, T, bx, s, r, ds, s1, e1, fun J bx1 H1 x1 y => ?_⟩
  refine ⟨fun i m σi Hi => i ≤ ds.length ∧ m = ds.length - i ∧ ∃ bxi si, Stp K F T bx1 s1 σ H1 bxi T si σi Hi ∧ forL g b (ds.drop i) si = .ok fl s', ⟨ds.length, Nat.zero_le _, by simp, bx1, s1, Stp.refl x1.rel, by simpa using e⟩, ?_⟩
  rintro i m σi Hi ⟨hi, rfl, bxi, si, xi, ei⟩
  obtain ⟨yg, ys⟩ := y bxi (Wf F si σi T) Hi xi.tr xi.rel.fz
  by_cases hlt : i < ds.length
  · obtain ⟨yg1, yg2⟩ := yg i hlt
    refine .inr ⟨yg1, fun σ' H' => ∃ bx' s2, Stp K F T bx1 s1 σ H1 bx' T s2 σ' H' ∧ forL g b (ds.drop (i + 1)) s2 = .ok fl s', fun σ' H' ⟨bx', s2, x2, e2⟩ => ⟨ds.length - (i + 1), by omega, hlt, rfl, bx', s2, x2, e2⟩, fun x H' hy => ?_⟩
    obtain ⟨gr, rep⟩ := yg2 x H' hy
    have hd : ds[i]? = some ds[i] := List.getElem?_eq_getElem hlt
    have rp := rep _ hd
    rw [List.drop_eq_getElem_cons hlt] at ei
    obtain ⟨_, sg, eg, ei⟩ := bind_ok (m := g ds[i]) ei
    obtain ⟨f, sb, eb, ei⟩ := bind_ok ei
    have xg : Stp K F T bxi si σi Hi bxi T si σi H' := Stp.grow xi.rel gr (fun _ z => .inl z) (fun _ z => z)
    refine ⟨F, T, bxi, si, ds[i], xg.rel, rp, sg, eg, fun bx2 σ2 H2 x2 _ _ => ?_⟩
    have xx := (xi.trans xg).trans x2
    cases f with
    | nx => exact rdS.any xx eb fun bx3 σ3 H3 x3 => ⟨bx3, sb, x3, ei⟩
    | ct => exact rdS.any xx eb fun bx3 σ3 H3 x3 => ⟨bx3, sb, x3, ei⟩
    | bk => cases ei; exact rdS.any xx eb fun bx3 σ3 H3 x3 => k bx3 σ3 H3 (x1.trans x3)
    | rt t => cases ei; exact rdS.any xx eb fun v bx3 σ3 H3 x3 q => k v bx3 σ3 H3 (x1.trans x3) q
  · have e : i = ds.length := by omega
    subst e
    rw [List.drop_length] at ei
    cases ei
    exact .inl ⟨ys, k bxi σi Hi (x1.trans xi)⟩
theorem rdS.while_ {c : M Bool} {b : M Fl} {D : Ends} {σ : St} {H : Hp} (h : rdS K (whileM c b) D σ H) : tWhile (rdB K c) (rdS K b) D σ H := by
  obtain ⟨F, T, bx, s, r, fl, s', e, k⟩ := h
  obtain ⟨n, e⟩ := whileM_ok e
  refine ⟨fun m σi Hi => ∃ bxi si, Stp K F T bx s σ H bxi T si σi Hi ∧ whileN c b m si = .ok fl s', ⟨n, bx, s, Stp.refl r, e⟩, ?_⟩
  rintro m σi Hi ⟨bxi, si, xi, ei⟩
  cases m with
  | zero => cases ei
  | succ m =>
    obtain ⟨x, s1, e1, ei⟩ := bind_ok ei
    refine ⟨F, T, bxi, si, xi.rel, x, s1, e1, fun bx1 H1 x1 => ?_⟩
    cases x with
    | false =>
      rw [if_neg Bool.false_ne_true]
      cases ei
      exact k bx1 σi H1 (xi.trans x1)
    | true =>
      rw [if_pos rfl]
      obtain ⟨f, s2, e2, ei⟩ := bind_ok (m := b) ei
      refine ⟨fun σ' H' => ∃ bx' s3, Stp K F T bx s σ H bx' T s3 σ' H' ∧ whileN c b m s3 = .ok fl s', fun σ' H' ⟨bx', s3, x3, e3⟩ => ⟨m, Nat.lt_succ_self m, bx', s3, x3, e3⟩, ?_⟩
      have xx := xi.trans x1
      cases f with
      | nx => exact rdS.any xx e2 fun bx3 σ3 H3 x3 => ⟨bx3, s2, x3, ei⟩
      | ct => exact rdS.any xx e2 fun bx3 σ3 H3 x3 => ⟨bx3, s2, x3, ei⟩
      | bk => cases ei; exact rdS.any xx e2 fun bx3 σ3 H3 x3 => k bx3 σ3 H3 x3
      | rt t => cases ei; exact rdS.any xx e2 fun v bx3 σ3 H3 x3 q => k v bx3 σ3 H3 x3 q
end
section
variable {X : Cx} {tg iter c : Expr} {body : List Stmt} {mi : M (List D)} {g : D → M Unit} {b : M Fl} {mc : M Bool} {pos : Pos} {ws : List Nat}
theorem ss_for (hp : PassesOwn (model X.prog X.w) X.A X.env X.xe) (hc : X.calm = true) (hi : SI X tg iter mi) (hg : SG X tg g ws) (hb : SSs X body b)
    (hs : ∀ x, foldedSetIterable iter X.env x = pure x := by intro _; rfl) : SS X (.For tg iter body [] pos) (forM' mi g b) := PS.weak (ps_for hp hc hi hg hb hs) fun _ _ _ h => h.for_
theorem ss_while (hp : PassesOwn (model X.prog X.w) X.A X.env X.xe) (hc : SB X c mc) (hb : SSs X body b) : SS X (.While c body [] pos) (whileM mc b) := PS.weak (ps_while hp hc hb) fun _ _ _ h => h.while_
end

def seqD : D → Option (List D)
  | .lst ds => some ds
  | .tup ds => some ds
  | _ => none
def lstI (m : M DB) : M (List D) := do
  let t ← m
  lift (match t.1 with
    | .lst ds => some ds
    | _ => none)
def tupI (m : M DB) : M (List D) := do
  let t ← m
  lift (match t.1 with
    | .tup ds => some ds
    | _ => none)
def rangeD (lo : Int) (n : Nat) : List D := (List.range n).map fun (i : Nat) => .int (lo + (i : Int))
def small62 (i : Int) : Bool := decide (-(2 ^ 62) ≤ i) && decide (i < 2 ^ 62)
def rngI1 (mr : M (List D)) : M (List D) := do
  let ds ← mr
  lift (match ds with
    | [.int j] => if small62 j then some (rangeD 0 j.toNat) else none
    | _ => none)
def rngI2 (mr : M (List D)) : M (List D) := do
  let ds ← mr
  lift (match ds with
    | [.int i, .int j] => if small62 i && small62 j then some (rangeD i (j - i).toNat) else none
    | _ => none)
section
variable {K : PySem.W.Frag} {F : Fm} {bx : Bxs} {W : Wd} {H : Hp} {ds : List D}
theorem yields_list {a : Addr} (h : Rep K bx W H (.lst ds) (.ref a)) : Yields K F (Itl K a) bx W H ds := by
  intro bx' W' H' tr _
  obtain ⟨b, xs, e, h1, h2⟩ := (tr _ _ h).lst
  cases e
  refine ⟨fun i hi => ⟨?_, fun x H'' y => ?_⟩, ⟨xs, h1, Nat.le_of_eq h2.length.symm⟩⟩
  · obtain ⟨v, e, _⟩ := h2.get (List.getElem?_eq_getElem hi)
    exact ⟨xs, v, h1, e⟩
  · obtain ⟨e, y⟩ := y
    subst e
    refine ⟨Grow.refl, fun d hd => ?_⟩
    obtain ⟨v, e, q⟩ := h2.get hd
    have := y xs h1
    rw [e] at this
    cases this
    exact q
theorem yields_tup {a : Addr} (h : Rep K bx W H (.tup ds) (.ref a)) : Yields K F (Itt K a) bx W H ds := by
  intro bx' W' H' tr _
  obtain ⟨b, xs, e, h1, h2⟩ := (tr _ _ h).tup
  cases e
  refine ⟨fun i hi => ⟨?_, fun x H'' y => ?_⟩, ⟨xs, h1, Nat.le_of_eq h2.length.symm⟩⟩
  · obtain ⟨v, e, _⟩ := h2.get (List.getElem?_eq_getElem hi)
    exact ⟨xs, v, h1, e⟩
  · obtain ⟨e, y⟩ := y
    subst e
    refine ⟨Grow.refl, fun d hd => ?_⟩
    obtain ⟨v, e, q⟩ := h2.get hd
    have := y xs h1
    rw [e] at this
    cases this
    exact q
theorem yields_range {lo : Int} {n : Nat} : Yields K F (Itr lo n) bx W H (rangeD lo n) := by
  intro bx' W' H' tr _
  have hl : (rangeD lo n).length = n := by simp [rangeD]
  refine ⟨fun i hi => ⟨by rw [hl] at hi; exact hi, fun x H'' y => ?_⟩, Nat.le_of_eq hl.symm⟩
  obtain ⟨e, e2⟩ := y
  subst e e2
  refine ⟨Grow.refl, fun d hd => ?_⟩
  unfold rangeD at hd
  rw [List.getElem?_map, List.getElem?_range (by rw [hl] at hi; exact hi)] at hd
  cases hd
  exact Rep.mint
end
section
variable {X : Cx} {tg a b : Expr} {m : M DB} {mr : M (List D)} {p pos : Pos}
theorem si_list (h : SE X a m) : SI X tg a (lstI m) := PI.weak (pi_list h.d) fun σ H R h => by
  obtain ⟨F, T, bx, s, r, ds, s', e, k⟩ := h
  obtain ⟨t, s1, e1, e⟩ := bind_ok e
  obtain ⟨e2, rfl⟩ := lift_ok e
  refine ⟨F, T, bx, s, r, t.1, s', by rw [bind_run, e1]; rfl, fun v bx1 H1 x1 q1 => ?_⟩
  obtain ⟨d, fr⟩ := t
  cases d with
  | lst ds' =>
    cases e2
    obtain ⟨a, xs, rfl, h1, h2⟩ := q1.lst
    exact ⟨a, rfl, ⟨xs, h1⟩, k _ bx1 H1 x1 (yields_list q1)⟩
  | _ => cases e2
theorem si_tup (h : SE X a m) : SI X tg a (tupI m) := PI.weak (pi_tup h.d) fun σ H R h => by
  obtain ⟨F, T, bx, s, r, ds, s', e, k⟩ := h
  obtain ⟨t, s1, e1, e⟩ := bind_ok e
  obtain ⟨e2, rfl⟩ := lift_ok e
  refine ⟨F, T, bx, s, r, t.1, s', by rw [bind_run, e1]; rfl, fun v bx1 H1 x1 q1 => ?_⟩
  obtain ⟨d, fr⟩ := t
  cases d with
  | tup ds' =>
    cases e2
    obtain ⟨a, xs, rfl, h1, h2⟩ := q1.tup
    exact ⟨a, rfl, ⟨xs, h1⟩, k _ bx1 H1 x1 (yields_tup q1)⟩
  | _ => cases e2
theorem si_range1 (hg : Gl X "range") (hm : X.mg "range" = none) (ha : SA X [a] mr) (hs : starEach [a] X.env = [(false, eval a X.env)] := by rfl) : SI X tg (.Call (.Name "range" p) [a] [] pos) (rngI1 mr) :=
  PI.weak (pi_range1 hg hm ha hs) fun σ H R h => by
    obtain ⟨F, T, bx, s, r, ds, s', e, k⟩ := h
    obtain ⟨xs, s1, e1, e⟩ := bind_ok e
    obtain ⟨e2, rfl⟩ := lift_ok e
    refine ⟨F, T, bx, s, r, xs, s', e1, fun vs bx1 H1 x1 q1 => ?_⟩
    split at e2
    · rename_i j
      split at e2
      · rename_i c
        cases e2
        obtain ⟨v, vs', rfl, q2, q3⟩ := q1.uncons
        rw [q3.unnil, q2.int]
        have c' := Bool.and_eq_true_iff.mp c
        exact ⟨j, rfl, of_decide_eq_true c'.1, of_decide_eq_true c'.2, k _ bx1 H1 x1 yields_range⟩
      · cases e2
    · cases e2
theorem si_range2 (hg : Gl X "range") (hm : X.mg "range" = none) (ha : SA X [a, b] mr) (hs : starEach [a, b] X.env = [(false, eval a X.env), (false, eval b X.env)] := by rfl) (hs2 : starEach [b] X.env = [(false, eval b X.env)] := by rfl) : SI X tg (.Call (.Name "range" p) [a, b] [] pos) (rngI2 mr) :=
  PI.weak (pi_range2 hg hm ha hs hs2) fun σ H R h => by
    obtain ⟨F, T, bx, s, r, ds, s', e, k⟩ := h
    obtain ⟨xs, s1, e1, e⟩ := bind_ok e
    obtain ⟨e2, rfl⟩ := lift_ok e
    refine ⟨F, T, bx, s, r, xs, s', e1, fun vs bx1 H1 x1 q1 => ?_⟩
    split at e2
    · rename_i i j
      split at e2
      · rename_i c
        cases e2
        obtain ⟨v, vs', rfl, q2, q3⟩ := q1.uncons
        obtain ⟨v', vs'', rfl, q4, q5⟩ := q3.uncons
        rw [q5.unnil, q2.int, q4.int]
        have c' := Bool.and_eq_true_iff.mp c
        have c1 := Bool.and_eq_true_iff.mp c'.1
        have c2 := Bool.and_eq_true_iff.mp c'.2
        exact ⟨i, j, rfl, ⟨of_decide_eq_true c1.1, of_decide_eq_true c1.2, of_decide_eq_true c2.1, of_decide_eq_true c2.2⟩, k _ bx1 H1 x1 yields_range⟩
      · cases e2
    · cases e2
end
end L2.Pd
set_option maxHeartbeats 4000000
namespace L2.Pd
open PySem PySem.Spec PyProof.Rows

abbrev Ev := List (Option DB)
def wipeE (e : Ev) : List Nat → Ev
  | [] => e
  | v :: vs => (wipeE e vs).set v none
def restE (e0 : Ev) (e : Ev) : List Nat → Ev
  | [] => e
  | v :: vs => (restE e0 e vs).set v ((e0[v]?).join)
def wipeM (vs : List Nat) : M Unit := fun s => .ok () { s with env := wipeE s.env vs }
/-- no slot of these holds an owned list -/
def freeE (e : Ev) (vs : List Nat) : Bool := vs.all fun v => match e[v]? with
  | some (some (_, true)) => false
  | _ => true
def lcL (g : D → M Unit) (tt : M Bool) (te : M DB) (vs : List Nat) : List D → M (List D)
  | [] => pure []
  | d :: ds => do
    wipeM vs
    g d
    let b ← tt
    if b then (do
      let y ← te
      let r ← lcL g tt te vs ds
      pure (y.1 :: r)) else lcL g tt te vs ds
def lcM (mi : M (List D)) (g : D → M Unit) (tt : M Bool) (te : M DB) (vs : List Nat) : M DB := do
  let ds ← mi
  fun s => if freeE s.env vs then (match lcL g tt te vs ds s with
    | .ok r s2 => if r.length ≤ sizeLine then .ok (.lst r, true) { s2 with env := restE s.env s2.env vs } else .no
    | .ex e s2 => .ex e s2
    | .no => .no) else .no

theorem wipeE_len (e : Ev) : ∀ vs, (wipeE e vs).length = e.length
  | [] => rfl
  | v :: vs => by unfold wipeE; rw [List.length_set, wipeE_len e vs]
theorem restE_len (e0 e : Ev) : ∀ vs, (restE e0 e vs).length = e.length
  | [] => rfl
  | v :: vs => by unfold restE; rw [List.length_set, restE_len e0 e vs]
theorem wipeE_some {e : Ev} {i : Nat} {x : DB} : ∀ {vs : List Nat}, (wipeE e vs)[i]? = some (some x) → e[i]? = some (some x) ∧ i ∉ vs
  | [], h => ⟨h, by simp⟩
  | v :: vs, h => by
    unfold wipeE at h
    rcases set_look h with ⟨_, q⟩ | ⟨n, q⟩
    · cases q
    · obtain ⟨h1, h2⟩ := wipeE_some q
      exact ⟨h1, fun z => (List.mem_cons.mp z).elim n h2⟩
theorem wipe_out {σ : St} {i : Nat} : ∀ {vs : List Nat}, i ∉ vs → (wipe σ vs)[i]? = σ[i]?
  | [], _ => rfl
  | v :: vs, h => by
    unfold wipe
    rw [List.getElem?_set_ne (fun e => h (by rw [e]; exact List.mem_cons_self))]
    exact wipe_out fun z => h (List.mem_cons_of_mem _ z)
theorem wipe_in {σ : St} {i : Nat} (hi : i < σ.length) : ∀ {vs : List Nat}, i ∈ vs → (wipe σ vs)[i]? = some none
  | [], h => by cases h
  | v :: vs, h => by
    unfold wipe
    by_cases e : i = v
    · subst e
      rw [List.getElem?_set_self (by rw [wipe_length]; exact hi)]
    · rw [List.getElem?_set_ne (Ne.symm e)]
      exact wipe_in hi ((List.mem_cons.mp h).elim (fun z => absurd z e) id)
theorem wipe_eq {σ σ' : St} {vs : List Nat} (hl : σ'.length = σ.length) (h : ∀ j, j ∉ vs → σ'[j]? = σ[j]?) : wipe σ' vs = wipe σ vs := by
  refine List.ext_getElem? fun j => ?_
  by_cases hj : j ∈ vs
  · by_cases hlt : j < σ.length
    · rw [wipe_in hlt hj, wipe_in (by rw [hl]; exact hlt) hj]
    · rw [List.getElem?_eq_none (by rw [wipe_length, hl]; omega), List.getElem?_eq_none (by rw [wipe_length]; omega)]
  · rw [wipe_out hj, wipe_out hj, h j hj]
theorem wipe_wipe {σ : St} {vs : List Nat} : wipe (wipe σ vs) vs = wipe σ vs := wipe_eq (wipe_length _ _) fun j hj => wipe_out hj
theorem restE_look {e0 e : Ev} {i : Nat} {x : DB} : ∀ {vs : List Nat}, (restE e0 e vs)[i]? = some (some x) → (i ∈ vs ∧ e0[i]? = some (some x)) ∨ (i ∉ vs ∧ e[i]? = some (some x))
  | [], h => .inr ⟨by simp, h⟩
  | v :: vs, h => by
    unfold restE at h
    rcases set_look h with ⟨e1, q⟩ | ⟨n, q⟩
    · refine .inl ⟨by rw [e1]; exact List.mem_cons_self, ?_⟩
      rw [e1]
      cases z : e0[v]? with
      | none => rw [z] at q; cases q
      | some o => rw [z] at q; cases o with
        | none => cases q
        | some y => cases q; rfl
    · rcases restE_look q with ⟨h1, h2⟩ | ⟨h1, h2⟩
      · exact .inl ⟨List.mem_cons_of_mem _ h1, h2⟩
      · exact .inr ⟨fun z => (List.mem_cons.mp z).elim n h1, h2⟩
theorem freeE_at {e : Ev} {vs : List Nat} (h : freeE e vs = true) {i : Nat} {d : D} (hi : i ∈ vs) : e[i]? ≠ some (some (d, true)) := fun q => by
  have := List.all_eq_true.mp h i hi
  rw [q] at this
  cases this

section
variable {K : PySem.W.Frag} {F : Fm} {T : List Addr} {bx : Bxs} {s : S} {σ : St} {H : Hp} {vs : List Nat}
theorem own_wipe {b : Addr} (z : Own { s with env := wipeE s.env vs } (wipe σ vs) b) : Own s σ b := by
  obtain ⟨i, d, z1, z2⟩ := z
  exact ⟨i, d, (wipeE_some z1).1, (wipe_some z2).1⟩
theorem wf_wipe : ∀ b, Wf F { s with env := wipeE s.env vs } (wipe σ vs) T b → Wf F s σ T b := fun b z => by
  rcases z with z | z | z
  · exact .inl z
  · exact .inr (.inl (own_wipe z))
  · exact .inr (.inr z)
theorem Rel.wipe (r : Rel K F bx T s σ H) (vs : List Nat) : Rel K F bx T { s with env := wipeE s.env vs } (wipe σ vs) H := by
  refine ⟨?_, r.w0, r.wb, fun i d e => ?_, fun i d e => ?_, fun i j d e a h1 h2 h3 h4 => ?_, r.box, r.fr, r.tmp, r.nb, r.pre⟩
  · show (wipeE s.env vs).length = _
    rw [wipeE_len, wipe_length]
    exact r.len
  · obtain ⟨e1, hn⟩ := wipeE_some e
    obtain ⟨v, e2, h⟩ := r.sh i d e1
    exact ⟨v, by rw [wipe_out hn]; exact e2, h.less wf_wipe⟩
  · obtain ⟨e1, hn⟩ := wipeE_some e
    obtain ⟨a, xs, ds, o, p1, p2, p3, p4, p5⟩ := r.ow i d e1
    exact ⟨a, xs, ds, o, p1, by rw [wipe_out hn]; exact p2, p3, p4.less wf_wipe, p5⟩
  · exact r.inj i j d e a (wipeE_some h1).1 (wipeE_some h2).1 (wipe_some h3).1 (wipe_some h4).1
/-- a temporary's content is changed -/
theorem Rel.setTmp (r : Rel K F bx T s σ H) {a : Addr} {u u' : HO} (ha : a ∈ T) (e : H a = some u) (mu : Mut u := by exact Mut.lst) (mu' : Mut u' := by exact Mut.lst) : Rel K F bx T s σ (upd H a u') ∧ Keep bx (Wf F s σ T) H (upd H a u') := by
  have keep : Keep bx (Wf F s σ T) H (upd H a u') := fun b o q h => by
    by_cases hb : b = a
    · subst hb
      rw [e] at q; cases q
      exact absurd (.inr (.inr ha)) (h mu).1
    · exact .inl (by rw [upd_ne hb]; exact q)
  obtain ⟨t1, t2, t3, _⟩ := r.tmp a ha
  have tr : ∀ d v, Rep K bx (Wf F s σ T) H d v → Rep K bx (Wf F s σ T) (upd H a u') d v := fun d v h => Rep.to keep (fun _ z => .inl z) (fun _ z => .inl z) (fun _ _ z => z) d v h
  refine ⟨⟨r.len, r.w0, r.wb, fun i d q => ?_, fun i d q => ?_, r.inj, ⟨r.box.len, r.box.nd, fun n b q => ?_, tabs_upd r.box.tb e mu.nt mu.ne⟩, fun b o q hb => ?_, fun b hb => ?_, r.nb, r.pre⟩, keep⟩
  · obtain ⟨v, e2, h⟩ := r.sh i d q
    exact ⟨v, e2, tr _ _ h⟩
  · obtain ⟨b, zs, ds, o, p1, p2, p3, p4, p5, p6, p7⟩ := r.ow i d q
    refine ⟨b, zs, ds, o, p1, p2, ?_, RepL.to keep (fun _ z => .inl z) (fun _ z => .inl z) (fun _ _ z => z) _ _ p4, p5, p6, p7⟩
    rw [upd_ne (show b ≠ a from fun z => p6 (by rw [z]; exact ha))]
    exact p3
  · obtain ⟨ns, q1, q2⟩ := r.box.at_ n b q
    exact ⟨ns, q1, by rw [upd_ne (show b ≠ a from fun z => t2 (by rw [← z]; exact List.mem_of_getElem? q))]; exact q2⟩
  · rw [upd_ne (fun z => by rw [z, t3] at q; cases q)]
    exact r.fr b o q hb
  · obtain ⟨u1, u2, u3, zs, u4, u5⟩ := r.tmp b hb
    by_cases hba : b = a
    · subst hba
      exact ⟨u1, u2, u3, _, upd_same, mu'⟩
    · exact ⟨u1, u2, u3, zs, by rw [upd_ne hba]; exact u4, u5⟩
end

/-- what holds between two turns -/
structure LcI (K : PySem.W.Frag) (F : Fm) (T : List Addr) (bx1 : Bxs) (s1 : S) (σ : St) (H1 : Hp) (vs : List Nat) (D : Addr) (bx : Bxs) (s : S) (H : Hp) (acc : List V) (accD : List Pd.D) : Prop where
  rel : Rel K F bx (D :: T) { s with env := wipeE s.env vs } (wipe σ vs) H
  at_ : H D = some (.lst acc)
  rep : RepL K bx (Wf F { s with env := wipeE s.env vs } (wipe σ vs) (D :: T)) H accD acc
  tr : ∀ d v, Rep K bx1 (Wf F s1 σ T) H1 d v → Rep K bx (Wf F { s with env := wipeE s.env vs } (wipe σ vs) (D :: T)) H d v
  tk : ∀ a, H a = none → H1 a = none
  pre : ∀ (n : Nat) (a : Addr), bx1[n]? = some a → bx[n]? = some a
  kt : ∀ a ∈ T, ∀ o, H1 a = some o → H a = some o
  len : s.env.length = σ.length

/-- what tLc asks behind its iterator -/
def lcB (tg : TG) (tb : TT) (tl : TE) (vs : List Nat) (σ : St) (Q : VK) (J : It) (H1 : Hp) : Prop := tLc (fun _ _ R => R J H1) tg tb tl vs σ H1 Q
theorem rdT.lcC {K : PySem.W.Frag} {F : Fm} {T : List Addr} {bx : Bxs} {s s' : S} {t : DB} {mi : M (List D)} {g : D → M Unit} {tt : M Bool} {te : M DB} {vs ws : List Nat} {σ : St} {H : Hp} {Q : VK} (hws : ∀ j ∈ ws, j ∈ vs) (r : Rel K F bx T s σ H) (e : lcM mi g tt te vs s = .ok t s')
    (k : ∀ v bx' H', Stp K F T bx s σ H bx' (tmpOf t v T) s' σ H' → Res K F T bx' s' σ H' t v → Q v H') :
    ∃ ds s1, mi s = .ok ds s1 ∧ ∀ J bx' H', Stp K F T bx s σ H bx' T s1 σ H' → Yields K F J bx' (Wf F s1 σ T) H' ds → lcB (rdG K g ws) (rdB K tt) (rdT K te) vs σ Q J H' := by
  obtain ⟨ds, s1, e1, e⟩ := bind_ok e
  split at e
  · rename_i fr
    cases q : lcL g tt te vs ds s1 with
    | ex _ _ => rw [q] at e; cases e
    | no => rw [q] at e; cases e
    | ok res s2 =>
      rw [q] at e
      have e : (if res.length ≤ sizeLine then R.ok (Pd.D.lst res, true) { s2 with env := restE s1.env s2.env vs } else R.no) = R.ok t s' := e
      split at e
      · rename_i hz
        cases e
        refine ⟨ds, s1, e1, fun J bx1 H1 x1 y D hD => ?_⟩
        have hDT : D ∉ T := fun z => by
          obtain ⟨_, _, _, xs, p, _⟩ := x1.rel.tmp D z
          rw [hD] at p; cases p
        have g0 : Rel K F bx1 (D :: T) s1 σ (upd H1 D (.lst [])) := x1.rel.grow (Grow.new hD) fun a ha => (List.mem_cons.mp ha).elim (fun z => .inr (by subst z; exact ⟨hD, _, upd_same, .lst⟩)) .inl
        have I0 : LcI K F T bx1 s1 σ H1 vs D bx1 s1 (upd H1 D (.lst [])) [] [] := by
          refine ⟨g0.wipe vs, upd_same, .nil, fun d v h => ?_, fun a h => (Grow.new hD).none h, fun _ _ h => h, fun a ha o h => Grow.new hD a o h, x1.rel.len⟩
          refine Rep.less wf_wipe (h.grow (Grow.new hD) fun a z => ?_)
          rcases z with z | z | z
          · exact .inl (.inl z)
          · exact .inl (.inr (.inl z))
          · exact (List.mem_cons.mp z).elim (fun z => .inr (by rw [z]; exact hD)) fun z => .inl (.inr (.inr z))
        refine ⟨fun i m Hi => i ≤ ds.length ∧ m = ds.length - i ∧ ∃ bxi si acc accD ri, LcI K F T bx1 s1 σ H1 vs D bxi si Hi acc accD ∧ lcL g tt te vs (ds.drop i) si = .ok ri s2 ∧ accD ++ ri = res, ⟨ds.length, Nat.zero_le _, by simp, bx1, s1, [], [], res, I0, by simpa using q, rfl⟩, ?_⟩
        rintro i m Hi ⟨hi, rfl, bxi, si, acc, accD, ri, I, ei, er⟩
        obtain ⟨yg, ys⟩ := y bxi _ Hi I.tr I.rel.fz
        by_cases hlt : i < ds.length
        · obtain ⟨yg1, yg2⟩ := yg i hlt
          refine .inr ⟨yg1, fun H' => ∃ bx' s3 acc' accD' r', LcI K F T bx1 s1 σ H1 vs D bx' s3 H' acc' accD' ∧ lcL g tt te vs (ds.drop (i + 1)) s3 = .ok r' s2 ∧ accD' ++ r' = res, fun H' ⟨bx', s3, acc', accD', r', I', e', er'⟩ => ⟨ds.length - (i + 1), by omega, hlt, rfl, bx', s3, acc', accD', r', I', e', er'⟩, fun x H' hy => ?_⟩
          obtain ⟨gr, rep⟩ := yg2 x H' hy
          have rp := rep _ (List.getElem?_eq_getElem hlt)
          rw [List.drop_eq_getElem_cons hlt] at ei
          obtain ⟨_, sw, ew, ei⟩ := bind_ok (m := wipeM vs) ei
          cases ew
          obtain ⟨_, sg, eg, ei⟩ := bind_ok (m := g ds[i]) ei
          obtain ⟨b, sb, eb, ei⟩ := bind_ok (m := tt) ei
          have xg : Stp K F (D :: T) bxi { si with env := wipeE si.env vs } (wipe σ vs) Hi bxi (D :: T) { si with env := wipeE si.env vs } (wipe σ vs) H' := Stp.grow I.rel gr (fun _ z => .inl z) (fun _ z => z)
          refine ⟨F, D :: T, bxi, _, ds[i], xg.rel, rp, sg, eg, fun bx2 σ2 H2 x2 hσ hl2 => ?_⟩
          have hw : wipe σ2 vs = wipe σ vs := by
            rw [← wipe_wipe (σ := σ)]
            exact wipe_eq hl2 fun j hj => hσ j fun z => hj (hws j z)
          have xx := xg.trans x2
          have fin : ∀ {bx3 : Bxs} {s3 : S} {H3 : Hp}, Stp K F (D :: T) bxi { si with env := wipeE si.env vs } (wipe σ vs) Hi bx3 (D :: T) s3 σ2 H3 → LcI K F T bx1 s1 σ H1 vs D bx3 s3 H3 acc accD := fun {bx3 s3 H3} x3 => by
            have rw3 := x3.rel.wipe vs
            rw [hw] at rw3
            have wf3 : ∀ b, Wf F { s3 with env := wipeE s3.env vs } (wipe σ vs) (D :: T) b → Wf F s3 σ2 (D :: T) b := by rw [← hw]; exact wf_wipe
            refine ⟨rw3, x3.kt D List.mem_cons_self _ I.at_, (x3.trL _ _ I.rep).less wf3, fun d v h => (x3.tr d v (I.tr d v h)).less wf3, fun a h => I.tk a (x3.tk a h), fun n a h => x3.pre n a (I.pre n a h), fun a ha o h => x3.kt a (List.mem_cons_of_mem _ ha) o (I.kt a ha o h), ?_⟩
            rw [x3.rel.len, hl2, wipe_length]
          refine ⟨hw, F, D :: T, bx2, sg, x2.rel, b, sb, eb, fun bx3 H3 x3 => ?_⟩
          have x3' := xx.trans x3
          cases b with
          | false =>
            refine iteF ?_
            exact ⟨bx3, sb, acc, accD, ri, fin x3', ei, er⟩
          | true =>
            refine iteT ?_
            obtain ⟨y', s4, e4, ei⟩ := bind_ok (m := te) ei
            obtain ⟨r', s5, e5, ei⟩ := bind_ok ei
            cases ei
            refine ⟨F, D :: T, bx3, sb, x3.rel, y', s4, e4, fun v bx4 H4 x4 q4 => ?_⟩
            have rv := q4.rep x4
            have x5 := x3'.trans x4.drop
            have I4 := fin x5
            have hlen : acc.length < sizeLine := by
              have h1 := I4.rep.length
              have h2 : (accD ++ y'.1 :: r').length = res.length := by rw [er]
              rw [List.length_append, List.length_cons] at h2
              omega
            refine ⟨acc, I4.at_, hlen, bx4, s4, acc ++ [v], accD ++ [y'.1], r', ?_, e5, by rw [← er]; simp⟩
            obtain ⟨rel5, keep5⟩ := I4.rel.setTmp (u' := .lst (acc ++ [v])) List.mem_cons_self I4.at_
            have tr5 : ∀ d u', Rep K bx4 (Wf F { s4 with env := wipeE s4.env vs } (wipe σ vs) (D :: T)) H4 d u' → Rep K bx4 (Wf F { s4 with env := wipeE s4.env vs } (wipe σ vs) (D :: T)) (upd H4 D (.lst (acc ++ [v]))) d u' := fun d u' h => Rep.to keep5 (fun _ z => .inl z) (fun _ z => .inl z) (fun _ _ z => z) d u' h
            have trL5 : ∀ d v', RepL K bx4 (Wf F { s4 with env := wipeE s4.env vs } (wipe σ vs) (D :: T)) H4 d v' → RepL K bx4 (Wf F { s4 with env := wipeE s4.env vs } (wipe σ vs) (D :: T)) (upd H4 D (.lst (acc ++ [v]))) d v' := fun d v' h => RepL.to keep5 (fun _ z => .inl z) (fun _ z => .inl z) (fun _ _ z => z) d v' h
            have wf4 : ∀ b, Wf F { s4 with env := wipeE s4.env vs } (wipe σ vs) (D :: T) b → Wf F s4 σ2 (D :: T) b := by rw [← hw]; exact wf_wipe
            refine ⟨rel5, upd_same, (trL5 _ _ I4.rep).append (.cons (tr5 _ _ (rv.less wf4)) .nil), fun d u h => tr5 d u (I4.tr d u h), fun a h => I4.tk a ?_, I4.pre, fun a ha o h => ?_, I4.len⟩
            · by_cases hb : a = D
              · rw [hb, upd_same] at h; cases h
              · rwa [upd_ne hb] at h
            · rw [upd_ne (show a ≠ D from fun z => hDT (by rw [← z]; exact ha))]
              exact I4.kt a ha o h
        · have e : i = ds.length := by omega
          subst e
          rw [List.drop_length] at ei
          cases ei
          rw [List.append_nil] at er
          subst er
          refine .inl ⟨ys, ?_⟩
          have own2 : ∀ b, Own { s2 with env := restE s1.env s2.env vs } σ b → Own { s2 with env := wipeE s2.env vs } (wipe σ vs) b := by
            rintro b ⟨j, d, z1, z2⟩
            rcases restE_look z1 with ⟨h1, h2⟩ | ⟨h1, h2⟩
            · exact absurd h2 (freeE_at fr h1)
            · have h3 : (wipe σ vs)[j]? = some (some (V.ref b)) := by rw [wipe_out h1]; exact z2
              refine ⟨j, d, ?_, h3⟩
              show (wipeE s2.env vs)[j]? = _
              have : ∀ vs' : List Nat, j ∉ vs' → (wipeE s2.env vs')[j]? = s2.env[j]? := fun vs' => by
                induction vs' with
                | nil => intro _; rfl
                | cons v vs' ih =>
                  intro hv
                  unfold wipeE
                  rw [List.getElem?_set_ne (fun e => hv (by rw [e]; exact List.mem_cons_self))]
                  exact ih fun z => hv (List.mem_cons_of_mem _ z)
              rw [this vs h1]
              exact h2
          have wf2 : ∀ b, Wf F { s2 with env := restE s1.env s2.env vs } σ (D :: T) b → Wf F { s2 with env := wipeE s2.env vs } (wipe σ vs) (D :: T) b := fun b z => by
            rcases z with z | z | z
            · exact .inl z
            · exact .inr (.inl (own2 b z))
            · exact .inr (.inr z)
          have wout : ∀ (j : Nat) (x : DB), j ∉ vs → s2.env[j]? = some (some x) → (wipeE s2.env vs)[j]? = some (some x) := fun j x hj hx => by
            have : ∀ vs' : List Nat, j ∉ vs' → (wipeE s2.env vs')[j]? = s2.env[j]? := fun vs' => by
              induction vs' with
              | nil => intro _; rfl
              | cons v vs' ih =>
                intro hv
                unfold wipeE
                rw [List.getElem?_set_ne (fun e => hv (by rw [e]; exact List.mem_cons_self))]
                exact ih fun z => hv (List.mem_cons_of_mem _ z)
            rw [this vs hj]; exact hx
          have R := I.rel
          have rel : Rel K F bxi (D :: T) { s2 with env := restE s1.env s2.env vs } σ Hi := by
            refine ⟨?_, R.w0, R.wb, fun j d p => ?_, fun j d p => ?_, fun j l d d' a p1 p2 p3 p4 => ?_, R.box, R.fr, R.tmp, R.nb, R.pre⟩
            · show (restE s1.env s2.env vs).length = _
              rw [restE_len]; exact I.len
            · rcases restE_look p with ⟨h1, h2⟩ | ⟨h1, h2⟩
              · obtain ⟨v, p1, p2⟩ := x1.rel.sh j d h2
                exact ⟨v, p1, (I.tr _ _ p2).less wf2⟩
              · obtain ⟨v, p1, p2⟩ := R.sh j d (wout j _ h1 h2)
                exact ⟨v, by rw [wipe_out h1] at p1; exact p1, p2.less wf2⟩
            · rcases restE_look p with ⟨h1, h2⟩ | ⟨h1, h2⟩
              · exact absurd h2 (freeE_at fr h1)
              · obtain ⟨a, xs, ds', o, p1, p2, p3, p4, p5⟩ := R.ow j d (wout j _ h1 h2)
                exact ⟨a, xs, ds', o, p1, by rw [wipe_out h1] at p2; exact p2, p3, p4.less wf2, p5⟩
            · rcases restE_look p1 with ⟨h1, h2⟩ | ⟨h1, h2⟩
              · exact absurd h2 (freeE_at fr h1)
              · rcases restE_look p2 with ⟨h3, h4⟩ | ⟨h3, h4⟩
                · exact absurd h4 (freeE_at fr h3)
                · exact R.inj j l d d' a (wout j _ h1 h2) (wout l _ h3 h4) (by rw [wipe_out h1]; exact p3) (by rw [wipe_out h3]; exact p4)
          refine k (.ref D) bxi Hi (x1.trans ⟨rel, fun d v h => (I.tr d v h).less wf2, I.tk, I.pre, I.kt, fun a ha => List.mem_cons_of_mem _ ha⟩) ⟨D, acc, accD, _, .inl ⟨rfl, rfl⟩, rfl, I.at_, I.rep.less wf2, fun z => ?_, hDT⟩
          obtain ⟨j, d, z1, z2⟩ := z
          obtain ⟨a, xs, ds', _, p1, p2, p3, p4, p5, p6, _⟩ := rel.ow j d z1
          rw [z2] at p2
          cases p2
          exact p6 List.mem_cons_self
      · cases e
  · cases e
theorem rdT.lc {K : PySem.W.Frag} {mi : M (List D)} {g : D → M Unit} {tt : M Bool} {te : M DB} {vs ws : List Nat} {σ : St} {H : Hp} {Q : VK} (hws : ∀ j ∈ ws, j ∈ vs) (h : rdT K (lcM mi g tt te vs) σ H Q) :
    tLc (rdI K mi) (rdG K g ws) (rdB K tt) (rdT K te) vs σ H Q := by
  obtain ⟨F, T, bx, s, r, t, s', e, k⟩ := h
  obtain ⟨ds, s1, e1, h⟩ := rdT.lcC hws r e k
  exact ⟨F, T, bx, s, r, ds, s1, e1, h⟩
def noT : M Bool := pure true
/-- a block's context -/
abbrev Blk (X : Cx) (scope : Scope) (Y : Cx → Prop) : Prop := ∀ (s : Shared) (H : Hp) (C : Addr) (cl : List (Str × Addr)) (fp : List Addr), Y (X.blk s H scope (compEnvC scope cl C X.env) fp)
section
variable {X : Cx} {elt tg iter c : Expr} {scope : Scope} {own : List (Str × Nat)} {pos : Pos} {mi : M (List D)} {g : D → M Unit} {tt : M Bool} {te : M DB} {ws : List Nat}
theorem rdB.yes {σ : St} {H : Hp} {Q : Bool → Hp → Prop} {K : PySem.W.Frag} (h : rdB K noT σ H Q) : tYes σ H Q := by
  obtain ⟨F, T, bx, s, r, b, s', e, k⟩ := h
  cases e
  exact k bx H (Stp.refl r)
/-- [elt for tg in iter] -/
theorem se_lc (hc : X.calm = true) (hN : X.N.Nodup) (hi : SI X tg iter mi) (ok : BlkOk X.N X.env.scope scope own) (hws : ∀ j ∈ ws, j ∈ own.map (·.2)) (hg : Blk X scope fun Y => SG Y tg g ws) (he : Blk X scope fun Y => SE Y elt te)
    (hs : ∀ x, foldedSetIterable iter X.env x = pure x := by intro _; rfl) : SE X (.ListComp elt [⟨tg, iter, [], 0⟩] scope pos) (lcM mi g noT te (own.map (·.2))) :=
  PE.weak (pe_lc (wi := rdI X.K mi) (g := rdG X.K g ws) (te := rdT X.K te) (tt := rdB X.K noT) hc hN hi ok hg (fun s H C cl fp => ⟨fun pins s' σ H' Q I q => (pts_nil (X := X.blk s H scope (compEnvC scope cl C X.env) fp)).run pins s' σ H' Q I q.yes⟩) he hs) fun _ _ _ h => rdT.lc hws h
/-- [elt for tg in iter if c] -/
theorem se_lcIf (hc : X.calm = true) (hN : X.N.Nodup) (hi : SI X tg iter mi) (ok : BlkOk X.N X.env.scope scope own) (hws : ∀ j ∈ ws, j ∈ own.map (·.2)) (hg : Blk X scope fun Y => SG Y tg g ws) (ht : Blk X scope fun Y => SB Y c tt) (he : Blk X scope fun Y => SE Y elt te)
    (hs : ∀ x, foldedSetIterable iter X.env x = pure x := by intro _; rfl) : SE X (.ListComp elt [⟨tg, iter, [c], 0⟩] scope pos) (lcM mi g tt te (own.map (·.2))) :=
  PE.weak (pe_lc (wi := rdI X.K mi) (g := rdG X.K g ws) (te := rdT X.K te) (tt := rdB X.K tt) hc hN hi ok hg (fun s H C cl fp => pts_one (ht s H C cl fp)) he hs) fun _ _ _ h => rdT.lc hws h
end
end L2.Pd
set_option maxHeartbeats 4000000
namespace L2.Pd
open PySem PySem.Spec PyProof.Rows

/-- slot i holds an owned list -/
def ownAt (s : S) (i : Nat) : Option (List D) := match s.env[i]? with
  | some (some (.lst ds, true)) => some ds
  | _ => none
def putO (s : S) (i : Nat) (ds : List D) : S := { s with env := s.env.set i (some (.lst ds, true)) }
def onOwn {α : Type} (i : Nat) (m : M α) : M α := fun s => match ownAt s i with
  | some _ => m s
  | none => .no
def appM (i : Nat) (m : M DB) : M DB := onOwn i do
  let t ← m
  fun s => match ownAt s i with
    | some ds => if ds.length < sizeLine then .ok (.non, false) (putO s i (ds ++ [t.1])) else .no
    | none => .no
def popM (i : Nat) : M DB := fun s => match ownAt s i with
  | some ds => match ds[ds.length - 1]? with
    | some d => .ok (d, false) (putO s i ds.dropLast)
    | none => .no
  | none => .no
def popAtM (i : Nat) (m : M DB) : M DB := onOwn i do
  let t ← m
  fun s => match ownAt s i, t.1 with
    | some ds, .int j => if small62 j then (match ixN ds.length j with
      | some k => match ds[k]? with
        | some d => .ok (d, false) (putO s i (ds.eraseIdx k))
        | none => .no
      | none => .no) else .no
    | _, _ => .no
def insM (i : Nat) (m1 m2 : M DB) : M DB := onOwn i do
  let t ← m1
  let u ← m2
  fun s => match ownAt s i, t.1 with
    | some ds, .int j => if 0 ≤ j ∧ j < 2 ^ 62 ∧ ds.length < sizeLine then .ok (.non, false) (putO s i (ds.take j.toNat ++ u.1 :: ds.drop j.toNat)) else .no
    | _, _ => .no

section
variable {K : PySem.W.Frag} {F : Fm} {T : List Addr} {bx : Bxs} {s : S} {σ : St} {H : Hp} {i : Nat} {ds : List D}
theorem ownAt_some (h : ownAt s i = some ds) : s.env[i]? = some (some (.lst ds, true)) := by
  unfold ownAt at h
  split at h
  · cases h; assumption
  · cases h
theorem Rel.own (r : Rel K F bx T s σ H) (h : ownAt s i = some ds) : ∃ a xs, σ[i]? = some (some (V.ref a)) ∧ H a = some (.lst xs) ∧ RepL K bx (Wf F s σ T) H ds xs := by
  obtain ⟨a, xs, ds', o, e1, e2, e3, h1, _⟩ := r.ow i _ (ownAt_some h)
  rcases e1 with ⟨e1, rfl⟩ | ⟨_, e1, _⟩ <;> cases e1
  exact ⟨a, xs, e2, e3, h1⟩
theorem own_putD {b : Addr} {d0 d' : D} (h : s.env[i]? = some (some (d0, true))) (z : Own { s with env := s.env.set i (some (d', true)) } σ b) : Own s σ b := by
  obtain ⟨j, d, z1, z2⟩ := z
  rcases set_look z1 with ⟨e, _⟩ | ⟨_, q⟩
  · exact ⟨i, _, h, by rw [← e]; exact z2⟩
  · exact ⟨j, d, q, z2⟩
theorem own_put {b : Addr} (h : ownAt s i = some ds) {ds' : List D} (z : Own (putO s i ds') σ b) : Own s σ b := own_putD (ownAt_some h) z
/-- an owned one's content is changed -/
theorem Rel.mutD (r : Rel K F bx T s σ H) {d0 d' : D} (e : s.env[i]? = some (some (d0, true))) {a : Addr} {u u' : HO} {ys : List V} {ds' : List D} (hs : σ[i]? = some (some (V.ref a))) (ha : H a = some u) (hh : Hld d' ds' ys u') (q : RepL K bx (Wf F s σ T) H ds' ys) :
    Stp K F T bx s σ H bx T { s with env := s.env.set i (some (d', true)) } σ (upd H a u') := by
  obtain ⟨a', xs', ds0, o0, e1, e2, e3, h1, h2, h3, h4, h5⟩ := r.ow i _ e
  rw [hs] at e2; cases e2
  rw [ha] at e3; cases e3
  have oa : Own s σ a := ⟨i, _, e, hs⟩
  have keep : Keep bx (Wf F s σ T) H (upd H a u') := fun b o p hh => by
    by_cases hb : b = a
    · subst hb
      rw [ha] at p; cases p
      exact absurd (.inr (.inl oa)) (hh e1.mut).1
    · exact .inl (by rw [upd_ne hb]; exact p)
  have wf : ∀ b, Wf F { s with env := s.env.set i (some (d', true)) } σ T b → Wf F s σ T b := fun b z => by
    rcases z with z | z | z
    · exact .inl z
    · exact .inr (.inl (own_putD e z))
    · exact .inr (.inr z)
  have tr : ∀ d v, Rep K bx (Wf F s σ T) H d v → Rep K bx (Wf F { s with env := s.env.set i (some (d', true)) } σ T) (upd H a u') d v := fun d v h => Rep.to keep (fun b z => .inl (wf b z)) (fun _ z => .inl z) (fun _ _ z => z) d v h
  have trL : ∀ d v, RepL K bx (Wf F s σ T) H d v → RepL K bx (Wf F { s with env := s.env.set i (some (d', true)) } σ T) (upd H a u') d v := fun d v h => RepL.to keep (fun b z => .inl (wf b z)) (fun _ z => .inl z) (fun _ _ z => z) d v h
  refine ⟨⟨by simpa using r.len, r.w0, r.wb, fun j d p => ?_, fun j d p => ?_, fun j l d d2 b p1 p2 p3 p4 => ?_, ⟨r.box.len, r.box.nd, fun n b p => ?_, tabs_upd r.box.tb ha e1.mut.nt e1.mut.ne⟩, fun b o p hb => ?_, fun b hb => ?_, r.nb, r.pre⟩, tr, fun b p => ?_, fun _ _ z => z, fun b hb o p => ?_, fun _ z => z⟩
  · rcases set_look p with ⟨_, p⟩ | ⟨_, p⟩
    · cases p
    · obtain ⟨v, p1, p2⟩ := r.sh j d p
      exact ⟨v, p1, tr _ _ p2⟩
  · rcases set_look p with ⟨ej, p⟩ | ⟨nj, p⟩
    · cases p
      exact ⟨a, ys, ds', u', hh, by rw [ej]; exact hs, upd_same, trL _ _ q, h2, h3, h4, h5⟩
    · obtain ⟨b, zs, es, ob, p1, p2, p3, p4, p5⟩ := r.ow j d p
      refine ⟨b, zs, es, ob, p1, p2, ?_, trL _ _ p4, p5⟩
      rw [upd_ne (show b ≠ a from fun z => nj (r.inj j i _ _ a p e (by rw [← z]; exact p2) hs))]
      exact p3
  · rcases set_look p1 with ⟨ej, p1⟩ | ⟨ej, p1⟩
    · rcases set_look p2 with ⟨el, p2⟩ | ⟨el, p2⟩
      · exact ej.trans el.symm
      · rw [ej, hs] at p3; cases p3
        exact absurd (r.inj l i _ _ a p2 e p4 hs) el
    · rcases set_look p2 with ⟨el, p2⟩ | ⟨el, p2⟩
      · rw [el, hs] at p4; cases p4
        exact absurd (r.inj j i _ _ a p1 e p3 hs) ej
      · exact r.inj j l d d2 b p1 p2 p3 p4
  · obtain ⟨ns, q1, q2⟩ := r.box.at_ n b p
    exact ⟨ns, q1, by rw [upd_ne (show b ≠ a from fun z => h4 (by rw [← z]; exact List.mem_of_getElem? p))]; exact q2⟩
  · rw [upd_ne (show b ≠ a from fun z => by rw [z, h5] at p; cases p)]
    exact r.fr b o p hb
  · obtain ⟨u1, u2, u3, zs, u4, u5⟩ := r.tmp b hb
    refine ⟨u1, u2, u3, zs, ?_, u5⟩
    rw [upd_ne (show b ≠ a from fun z => h3 (by rw [← z]; exact hb))]
    exact u4
  · by_cases hb : b = a
    · rw [hb, upd_same] at p; cases p
    · rwa [upd_ne hb] at p
  · rw [upd_ne (show b ≠ a from fun z => h3 (by rw [← z]; exact hb))]
    exact p
/-- an owned list's content is changed -/
theorem Rel.mut (r : Rel K F bx T s σ H) (h : ownAt s i = some ds) {a : Addr} {xs ys : List V} {ds' : List D} (hs : σ[i]? = some (some (V.ref a))) (ha : H a = some (.lst xs)) (q : RepL K bx (Wf F s σ T) H ds' ys) :
    Stp K F T bx s σ H bx T (putO s i ds') σ (upd H a (.lst ys)) := r.mutD (ownAt_some h) hs ha (.inl ⟨rfl, rfl⟩) q
theorem onOwn_ok {α : Type} {m : M α} {a : α} {s' : S} (h : onOwn i m s = .ok a s') : (∃ ds, ownAt s i = some ds) ∧ m s = .ok a s' := by
  unfold onOwn at h
  split at h
  · exact ⟨⟨_, by assumption⟩, h⟩
  · cases h
end

section
variable {X : Cx} {a b c : Expr} {ma mb mc : M DB} {i : Nat} {x : Str} {p apos cpos pos : Pos}
/-- x.m(e), x an owned list: the object, then the argument, then the method -/
theorem own1 {K : PySem.W.Frag} {σ : St} {H : Hp} {Q : VK} {r : V → List V → Hp → VK → Prop} {f : List D → D → Option (DB × List D)} {m : M DB}
    (hm : ∀ s t s', m s = .ok t s' → (∃ ds, ownAt s i = some ds) ∧ ∃ u s1, ma s = .ok u s1 ∧ ∃ ds t' ds', ownAt s1 i = some ds ∧ f ds u.1 = some (t', ds') ∧ t = t' ∧ s' = putO s1 i ds')
    (hr : ∀ (bx : Bxs) (W : Wd) (H : Hp) (a : Addr) (xs : List V) (v : V) (ds ds' : List D) (u : D) (t : DB) (Q : VK), H a = some (.lst xs) → RepL K bx W H ds xs → Rep K bx W H u v → f ds u = some (t, ds') →
      (∀ w ys, RepL K bx W H ds' ys → t.2 = false → Rep K bx W H t.1 w → Q w (upd H a (.lst ys))) → r (.ref a) [v] H Q)
    (h : rdT K m σ H Q) : tBM K "list" r (tVar i) (tCons (rdD K (do let t ← ma; Pure.pure t.1)) tNil) σ H Q := by
  obtain ⟨F, T, bx, s, r0, t, s', e, k⟩ := h
  obtain ⟨⟨ds0, h0⟩, u, s1, e1, ds, t', ds', h1, hf, rfl, rfl⟩ := hm s t s' e
  obtain ⟨a, xs0, hσ, hH, _⟩ := r0.own h0
  refine ⟨.ref a, hσ, .inl ⟨rfl, xs0, .inl (.inl hH)⟩, F, T, bx, s, r0, u.1, s1, by rw [bind_run, e1]; rfl, fun v bx1 H1 x1 q1 => ?_⟩
  obtain ⟨a', xs, hσ', hH', hR⟩ := x1.rel.own h1
  rw [hσ] at hσ'; cases hσ'
  refine hr bx1 (Wf F s1 σ T) H1 a xs v ds ds' u.1 t Q hH' hR q1 hf fun w ys q2 ht q3 => ?_
  have x2 := x1.rel.mut h1 hσ hH' q2
  obtain ⟨d, fr⟩ := t
  cases ht
  exact k w bx1 _ (x1.trans x2) (Res.old (x2.tr _ _ q3))
def fApp (ds : List D) (u : D) : Option (DB × List D) := if ds.length < sizeLine then some ((.non, false), ds ++ [u]) else none
def fPop (ds : List D) (u : D) : Option (DB × List D) := match u with
  | .int j => if small62 j then (match ixN ds.length j with
      | some k => match ds[k]? with
        | some d => some ((d, false), ds.eraseIdx k)
        | none => none
      | none => none) else none
  | _ => none
theorem se_app (i : Nat) (ha : SE X a ma) (hN : X.N[i]? = some x := by rfl) (hv : Vis X.env.scope x := by first | exact Or.inl rfl | exact Or.inr (Or.inl rfl) | exact Or.inr (Or.inr rfl)) (hd : (x == ("__debug__" : Str)) = false := by decide)
    (hcd : (x == ("__classdict__" : Str)) = false := by decide)
    (hbase : attributeBase (.Name x p) "append" X.env (eval (.Name x p) X.env) = eval (.Name x p) X.env := by rfl)
    (hfew : ((backTo cpos (starEach [a] X.env)).all (fun x => !x.1) && (backToKw cpos (keywordEach [] X.env)).all (fun x => x.1.isSome)
      && decide ([a].length + ([] : List Keyword).length + (if ([] : List Keyword).isEmpty then 0 else 1) < 30)) = true := by rfl)
    (hline : (apos.endLine == cpos.line) = true := by rfl) (hs : starEach [a] X.env = (false, eval a X.env) :: starEach [] X.env := by rfl) (hplain : (backTo cpos (starEach [] X.env)).any (·.1) = false := by rfl) :
    SE X (.Call (.Attribute (.Name x p) "append" apos) [a] [] cpos) (appM i ma) :=
  PE.weak (pe_bm PySem.F.plainAttrs_list PySem.F.slot_list_append PySem.F.type_list_append mt_append (pe_var hN hv hd hcd) (pa_cons ha.d pa_nil hs) hbase hfew hline hs hplain) fun σ H Q h => by
    refine own1 (f := fApp) (fun s t s' e => ?_) (fun bx W H a xs v ds ds' u t Q hH hR hu hf k => ?_) h
    · obtain ⟨h0, e⟩ := onOwn_ok e
      obtain ⟨u, s1, e1, e⟩ := bind_ok e
      split at e
      · rename_i ds hds
        split at e
        · rename_i c
          cases e
          exact ⟨h0, u, s1, e1, ds, _, _, hds, if_pos c, rfl, rfl⟩
        · cases e
      · cases e
    · unfold fApp at hf
      split at hf
      · rename_i c
        cases hf
        exact ⟨a, xs, v, rfl, rfl, hH, by rw [← hR.length]; exact c, k .non _ (hR.append (.cons hu .nil)) rfl Rep.mnon⟩
      · cases hf
theorem se_popAt (i : Nat) (ha : SE X a ma) (hN : X.N[i]? = some x := by rfl) (hv : Vis X.env.scope x := by first | exact Or.inl rfl | exact Or.inr (Or.inl rfl) | exact Or.inr (Or.inr rfl)) (hd : (x == ("__debug__" : Str)) = false := by decide)
    (hcd : (x == ("__classdict__" : Str)) = false := by decide)
    (hbase : attributeBase (.Name x p) "pop" X.env (eval (.Name x p) X.env) = eval (.Name x p) X.env := by rfl)
    (hfew : ((backTo cpos (starEach [a] X.env)).all (fun x => !x.1) && (backToKw cpos (keywordEach [] X.env)).all (fun x => x.1.isSome)
      && decide ([a].length + ([] : List Keyword).length + (if ([] : List Keyword).isEmpty then 0 else 1) < 30)) = true := by rfl)
    (hline : (apos.endLine == cpos.line) = true := by rfl) (hs : starEach [a] X.env = (false, eval a X.env) :: starEach [] X.env := by rfl) (hplain : (backTo cpos (starEach [] X.env)).any (·.1) = false := by rfl) :
    SE X (.Call (.Attribute (.Name x p) "pop" apos) [a] [] cpos) (popAtM i ma) :=
  PE.weak (pe_bm PySem.F.plainAttrs_list PySem.F.slot_list_pop PySem.F.type_list_pop mt_popAt (pe_var hN hv hd hcd) (pa_cons ha.d pa_nil hs) hbase hfew hline hs hplain) fun σ H Q h => by
    refine own1 (f := fPop) (fun s t s' e => ?_) (fun bx W H a xs v ds ds' u t Q hH hR hu hf k => ?_) h
    · obtain ⟨h0, e⟩ := onOwn_ok e
      obtain ⟨u, s1, e1, e⟩ := bind_ok e
      refine ⟨h0, u, s1, e1, ?_⟩
      split at e
      · rename_i ds j hds hu
        split at e
        · rename_i c
          split at e
          · rename_i kk hk
            split at e
            · rename_i d hd
              cases e
              exact ⟨ds, (d, false), ds.eraseIdx kk, hds, by simp [fPop, hu, c, hk, hd], rfl, rfl⟩
            · cases e
          · cases e
        · cases e
      · cases e
    · unfold fPop at hf
      split at hf
      · rename_i j
        split at hf
        · rename_i c
          split at hf
          · rename_i kk hk
            split at hf
            · rename_i d hd
              cases hf
              obtain ⟨w, hw, hrw⟩ := hR.get hd
              have c' := Bool.and_eq_true_iff.mp c
              have c1 : -(2 ^ 62) ≤ j := of_decide_eq_true c'.1
              have c2 : j < 2 ^ 62 := of_decide_eq_true c'.2
              refine ⟨a, xs, j, kk, w, rfl, by rw [hu.int], hH, by omega, by omega, ?_, hw, k w _ (hR.eraseIdx kk) rfl hrw⟩
              rw [← hR.length]
              exact (ixN_seq hk).1
            · cases hf
          · cases hf
        · cases hf
      · cases hf

def boxM (mr : M (List D)) : M DB := do
  let ds ← mr
  fun s => match ds with
    | [.int x, .int y, .int z] => .ok (.box s.st.length, false) { s with st := s.st ++ [[x, y, z]] }
    | _ => .no
/-- a subscript, of a box too -/
def ixM (ma mb : M DB) : M DB := do
  let x ← ma
  let y ← mb
  fun s => match x.1, y.1 with
    | .box n, .int j => match s.st[n]? with
      | some ns => match atI ns j with
        | some z => .ok (.int z, false) s
        | none => .no
      | none => .no
    | d, e => lift (idxD [d, e]) s
def bsetM (ma mb mv : M DB) : M Fl := do
  let t ← mv
  let x ← ma
  let y ← mb
  fun s => match x.1, y.1, t.1 with
    | .box n, .int j, .int z => match s.st[n]? with
      | some ns => match ixN ns.length j with
        | some k => .ok .nx { s with st := s.st.set n (ns.set k z) }
        | none => .no
      | none => .no
    | _, _, _ => .no
end
section
variable {K : PySem.W.Frag} {F : Fm} {T : List Addr} {bx : Bxs} {s : S} {σ : St} {H : Hp}
theorem Rel.boxed (r : Rel K F bx T s σ H) {p : Addr} {ns : List Int} (hp : H p = none) : Stp K F T bx s σ H (bx ++ [p]) T { s with st := s.st ++ [ns] } σ (upd H p (.lst (ns.map V.int))) := by
  have g : Grow H (upd H p (.lst (ns.map V.int))) := Grow.new hp
  have wf : ∀ b, Wf F { s with st := s.st ++ [ns] } σ T b → Wf F s σ T b := fun b z => z
  have hb : ∀ a ∈ bx ++ [p], a ∈ bx ∨ H a = none := fun a ha => (List.mem_append.mp ha).elim .inl fun z => .inr (by rw [List.mem_singleton.mp z]; exact hp)
  have hpre : ∀ (n : Nat) (a : Addr), bx[n]? = some a → (bx ++ [p])[n]? = some a := fun n a e => by
    rw [List.getElem?_append_left (List.getElem?_eq_some_iff.mp e).1]; exact e
  have hnb : ∀ a, a ∉ bx → H a ≠ none → a ∉ bx ++ [p] := fun a h1 h2 z => (hb a z).elim h1 h2
  have tr : ∀ d v, Rep K bx (Wf F s σ T) H d v → Rep K (bx ++ [p]) (Wf F { s with st := s.st ++ [ns] } σ T) (upd H p (.lst (ns.map V.int))) d v := fun d v h => Rep.to g.keep (fun b z => .inl (wf b z)) hb hpre d v h
  have trL : ∀ d v, RepL K bx (Wf F s σ T) H d v → RepL K (bx ++ [p]) (Wf F { s with st := s.st ++ [ns] } σ T) (upd H p (.lst (ns.map V.int))) d v := fun d v h => RepL.to g.keep (fun b z => .inl (wf b z)) hb hpre d v h
  refine ⟨⟨r.len, r.w0, fun a ha => ?_, fun i d e => ?_, fun i d e => ?_, r.inj, ⟨by simp [r.box.len], ?_, fun n a e => ?_, r.box.tb.ext g⟩, fun a o e h => ?_, fun a ha => ?_, fun a ha => ?_, fun n a e => hpre n a (r.pre n a e)⟩, tr, fun a h => g.none h, hpre, fun a _ o e => g a o e, fun _ z => z⟩
  · rcases hb a ha with z | z
    · exact r.wb a z
    · exact fun q => r.wSome (T := T) (.inl q) z
  · obtain ⟨v, e1, h⟩ := r.sh i d e
    exact ⟨v, e1, tr _ _ h⟩
  · obtain ⟨a, xs, ds, o, e1, e2, e3, h, h1, h2, h3, h4⟩ := r.ow i d e
    exact ⟨a, xs, ds, o, e1, e2, g _ _ e3, trL _ _ h, h1, h2, hnb a h3 (by rw [e3]; exact fun z => nomatch z), h4⟩
  · rw [List.nodup_append]
    refine ⟨r.box.nd, by simp, fun a ha b hb' => ?_⟩
    rw [List.mem_singleton.mp hb']
    exact fun z => r.box.some ha (by rw [z]; exact hp)
  · by_cases hn : n < bx.length
    · rw [List.getElem?_append_left hn] at e
      obtain ⟨ms, e1, e2⟩ := r.box.at_ n a e
      exact ⟨ms, by show (s.st ++ [ns])[n]? = _; rw [List.getElem?_append_left (by rw [r.box.len]; exact hn)]; exact e1, g _ _ e2⟩
    · have hl := (List.getElem?_eq_some_iff.mp e).1
      have hn' : n = bx.length := by simp at hl; omega
      subst hn'
      rw [List.getElem?_append_right (Nat.le_refl _), Nat.sub_self] at e
      cases e
      refine ⟨ns, ?_, upd_same⟩
      show (s.st ++ [ns])[bx.length]? = _
      rw [List.getElem?_append_right (by rw [r.box.len]; exact Nat.le_refl _), r.box.len, Nat.sub_self]
      rfl
  · exact (r.fr a o e fun z => h (List.mem_append_left _ z)).trans fun u q => .inl (g a u q)
  · obtain ⟨u1, u2, u3, zs, u4, u5⟩ := r.tmp a ha
    exact ⟨u1, hnb a u2 (by rw [u4]; exact fun z => nomatch z), u3, zs, g _ _ u4, u5⟩
  · rcases hb a ha with z | z
    · exact r.nb a z
    · exact .inr (r.entryNone z)
theorem Rel.setBox (r : Rel K F bx T s σ H) {n : Nat} {p : Addr} {ns ms : List Int} (hp : bx[n]? = some p) (hn : s.st[n]? = some ns) : Stp K F T bx s σ H bx T { s with st := s.st.set n ms } σ (upd H p (.lst (ms.map V.int))) := by
  have hpb : p ∈ bx := List.mem_of_getElem? hp
  obtain ⟨ns', q1, q2⟩ := r.box.at_ n p hp
  rw [hn] at q1; cases q1
  have ne : ∀ a, a ∉ bx → a ≠ p := fun a h z => h (by rw [z]; exact hpb)
  have keep : Keep bx (Wf F s σ T) H (upd H p (.lst (ms.map V.int))) := fun b o e h => by
    by_cases hb : b = p
    · subst hb
      rw [q2] at e; cases e
      exact absurd hpb (h .lst).2
    · exact .inl (by rw [upd_ne hb]; exact e)
  have tr : ∀ d v, Rep K bx (Wf F s σ T) H d v → Rep K bx (Wf F { s with st := s.st.set n ms } σ T) (upd H p (.lst (ms.map V.int))) d v := fun d v h => Rep.to keep (fun b z => .inl z) (fun _ z => .inl z) (fun _ _ z => z) d v h
  have trL : ∀ d v, RepL K bx (Wf F s σ T) H d v → RepL K bx (Wf F { s with st := s.st.set n ms } σ T) (upd H p (.lst (ms.map V.int))) d v := fun d v h => RepL.to keep (fun b z => .inl z) (fun _ z => .inl z) (fun _ _ z => z) d v h
  refine ⟨⟨r.len, r.w0, r.wb, fun i d e => ?_, fun i d e => ?_, r.inj, ⟨by simpa using r.box.len, r.box.nd, fun m a e => ?_, tabs_upd r.box.tb q2 nt_lst (fun _ z => nomatch z)⟩, fun a o e h => ?_, fun a ha => ?_, r.nb, r.pre⟩, tr, fun a h => ?_, fun _ _ z => z, fun a ha o e => ?_, fun _ z => z⟩
  · obtain ⟨v, e1, h⟩ := r.sh i d e
    exact ⟨v, e1, tr _ _ h⟩
  · obtain ⟨a, xs, ds, o, e1, e2, e3, h, h1, h2, h3, h4⟩ := r.ow i d e
    exact ⟨a, xs, ds, o, e1, e2, by rw [upd_ne (ne a h3)]; exact e3, trL _ _ h, h1, h2, h3, h4⟩
  · by_cases hm : m = n
    · subst hm
      rw [hp] at e; cases e
      exact ⟨ms, by show (s.st.set m ms)[m]? = _; rw [List.getElem?_set_self (List.getElem?_eq_some_iff.mp hn).1], upd_same⟩
    · obtain ⟨ks, e1, e2⟩ := r.box.at_ m a e
      refine ⟨ks, by show (s.st.set n ms)[m]? = _; rw [List.getElem?_set_ne (Ne.symm hm)]; exact e1, ?_⟩
      have hne : a ≠ p := fun z => hm (by
        subst z
        obtain ⟨h1, h1'⟩ := List.getElem?_eq_some_iff.mp e
        obtain ⟨h2, h2'⟩ := List.getElem?_eq_some_iff.mp hp
        exact (List.getElem_inj r.box.nd).mp (h1'.trans h2'.symm))
      rw [upd_ne hne]; exact e2
  · rw [upd_ne (ne a h)]; exact r.fr a o e h
  · obtain ⟨u1, u2, u3, zs, u4, u5⟩ := r.tmp a ha
    exact ⟨u1, u2, u3, zs, by rw [upd_ne (ne a u2)]; exact u4, u5⟩
  · by_cases hb : a = p
    · rw [hb, upd_same] at h; cases h
    · rwa [upd_ne hb] at h
  · rw [upd_ne (ne a (r.tmp a ha).2.1)]; exact e
end
section
variable {X : Cx} {a b c : Expr} {ma mb mv : M DB} {es : List Expr} {mr : M (List D)} {pos tpos : Pos}
theorem se_box (h : SA X es mr) : SE X (.List es pos) (boxM mr) := PE.weak (pe_lst h) fun σ H Q h => by
  obtain ⟨F, T, bx, s, r, t, s', e, k⟩ := h
  obtain ⟨xs, s1, e1, e⟩ := bind_ok e
  split at e
  · rename_i x y z
    cases e
    refine ⟨F, T, bx, s, r, _, s1, e1, fun vs bx1 H1 x1 q1 => ⟨by rw [← q1.length]; show 3 ≤ sizeLine; rw [sizeLine_eq]; decide, fun p hp => ?_⟩⟩
    have hv : vs = [x, y, z].map V.int := RepL.unints (ns := [x, y, z]) q1
    subst hv
    refine k (.ref p) _ _ (x1.trans (x1.rel.boxed hp)) (Res.old ?_)
    unfold Rep
    refine ⟨p, rfl, ?_⟩
    have hl := x1.rel.box.len
    rw [hl, List.getElem?_append_right (Nat.le_refl _), Nat.sub_self]
    rfl
  · cases e
theorem idx_rd {K : PySem.W.Frag} {bx : Bxs} {W : Wd} {H : Hp} {d1 d2 : D} {x y : V} {t : DB} {Q : VK} (h1 : Rep K bx W H d1 x) (h2 : Rep K bx W H d2 y) (e : idxD [d1, d2] = some t) (k : ∀ v, t.2 = false → Rep K bx W H t.1 v → Q v H) : rIx K x y H Q := by
  unfold idxD at e
  split at e
  · rename_i xs i q
    cases q
    obtain ⟨d, e1, rfl⟩ := Option.map_eq_some_iff.mp e
    obtain ⟨a, vs, rfl, q1, q2⟩ := h1.lst
    obtain ⟨w, e2, q3⟩ := q2.atI e1
    exact .inl ⟨a, vs, i, w, rfl, h2.int, q1, e2, k w rfl q3⟩
  · rename_i xs i q
    cases q
    obtain ⟨d, e1, rfl⟩ := Option.map_eq_some_iff.mp e
    obtain ⟨a, vs, rfl, q1, q2⟩ := h1.tup
    obtain ⟨w, e2, q3⟩ := q2.atI e1
    exact .inr (.inl ⟨a, vs, i, w, rfl, h2.int, q1, e2, k w rfl q3⟩)
  · rename_i z i q
    cases q
    split at e
    · rename_i c
      obtain ⟨d, e1, rfl⟩ := Option.map_eq_some_iff.mp e
      exact .inr (.inr ⟨z, i, d, h1.str, h2.int, c, e1, k _ rfl Rep.mstr⟩)
    · cases e
  · cases e
theorem atI_map {α β : Type} {f : α → β} {xs : List α} {i : Int} {x : α} (h : atI xs i = some x) : atI (xs.map f) i = some (f x) := by
  unfold L2.atI at h ⊢
  rw [List.length_map]
  cases q : ixN xs.length i with
  | none => rw [q] at h; cases h
  | some j =>
    rw [q] at h
    have h : xs[j]? = some x := h
    show (xs.map f)[j]? = _
    rw [List.getElem?_map, h]; rfl
theorem se_ixM (ha : SE X a ma) (hb : SE X b mb) (hs : PlainIx b := by exact fun _ _ => rfl) : SE X (.Subscript a b pos) (ixM ma mb) := PE.weak (pe_ix ix_seq ha.d hb.d hs) fun σ H Q h => by
  obtain ⟨F, T, bx, s, r, t, s', e, k⟩ := h
  obtain ⟨x, s1, e1, e⟩ := bind_ok e
  obtain ⟨y, s2, e2, e⟩ := bind_ok e
  refine ⟨F, T, bx, s, r, x.1, s1, by rw [bind_run, e1]; rfl, fun v bx1 H1 x1 q1 => ⟨F, T, bx1, s1, x1.rel, y.1, s2, by rw [bind_run, e2]; rfl, fun u bx2 H2 x2 q2 => ?_⟩⟩
  have q1' := x2.tr _ _ q1
  have xx := x1.trans x2
  split at e
  · rename_i n j hx hy
    rw [hx] at q1'
    rw [hy] at q2
    split at e
    · rename_i ns hn
      split at e
      · rename_i z hz
        cases e
        unfold Rep at q1'
        obtain ⟨p, rfl, hp⟩ := q1'
        obtain ⟨ns', h1, h2⟩ := x2.rel.box.at_ n p hp
        rw [hn] at h1; cases h1
        exact .inl ⟨p, _, j, _, rfl, q2.int, .inl (.inl h2), atI_map hz, k _ bx2 H2 xx (Res.old Rep.mint)⟩
      · cases e
    · cases e
  · obtain ⟨ef, hs2⟩ := lift_ok e
    subst hs2
    refine idx_rd q1' q2 ef fun w ht q3 => ?_
    obtain ⟨d, fr⟩ := t
    cases ht
    exact k w bx2 H2 xx (Res.old q3)
theorem ss_bset (ha : SE X a ma) (hb : SE X b mb) (hv : SE X c mv) (hs : swapsWithSole [.Subscript a b tpos] c pos.line X.env = pure false := by rfl) (hw : swappedStores [.Subscript a b tpos] c X.env = pure none := by rfl)
    (h1 : (assignEach [.Subscript a b tpos] X.env).map (·.2) = [assign (.Subscript a b tpos) X.env] := by rfl)
    (hq : ∀ v, assign (.Subscript a b tpos) X.env v = (do
      let ov ← holding [v] (eval a X.env)
      let iv ← holding [v, ov] (eval b X.env)
      standAt tpos
      holding [v, ov, iv] (setItem ov iv v)
      release [v, ov, iv] []) := by intro _; rfl) : SS X (.Assign [.Subscript a b tpos] c pos) (bsetM ma mb mv) :=
  PS.weak (ps_asg hv.d (pg_sub ha.d hb.d set_list hq) hs hw h1) fun D σ H h => by
    obtain ⟨F, T, bx, s, r, fl, s', e, k⟩ := h
    obtain ⟨t, s0, e0, e⟩ := bind_ok e
    obtain ⟨x, s1, e1, e⟩ := bind_ok e
    obtain ⟨y, s2, e2, e⟩ := bind_ok e
    refine ⟨F, T, bx, s, r, t.1, s0, by rw [bind_run, e0]; rfl, fun w bx0 H0 x0 q0 => ⟨F, T, bx0, s0, x0.rel, x.1, s1, by rw [bind_run, e1]; rfl, fun v bx1 H1 x1 q1 => ⟨F, T, bx1, s1, x1.rel, y.1, s2, by rw [bind_run, e2]; rfl, fun u bx2 H2 x2 q2 => ?_⟩⟩⟩
    have q1' := x2.tr _ _ q1
    have q0' := x2.tr _ _ (x1.tr _ _ q0)
    have xx := (x0.trans x1).trans x2
    split at e
    · rename_i n j z hx hy hz
      rw [hx] at q1'
      rw [hy] at q2
      rw [hz] at q0'
      split at e
      · rename_i ns hn
        split at e
        · rename_i kk hk
          cases e
          unfold Rep at q1'
          obtain ⟨p, rfl, hp⟩ := q1'
          obtain ⟨ns', h1, h2⟩ := x2.rel.box.at_ n p hp
          rw [hn] at h1; cases h1
          refine ⟨p, _, j, kk, rfl, q2.int, h2, by rw [List.length_map]; exact hk, ?_⟩
          rw [q0'.int, show (ns.map V.int).set kk (V.int z) = (ns.set kk z).map V.int from (List.map_set ..).symm]
          exact k bx2 σ _ (xx.trans (x2.rel.setBox hp hn))
        · cases e
      · cases e
    · cases e
end
end L2.Pd
set_option maxHeartbeats 4000000
namespace L2.Pd
open PySem PySem.Spec PyProof.Rows

def lenD : List D → Option DB
  | [.lst ds] => some (.int (ds.length : Int), false)
  | [.tup ds] => some (.int (ds.length : Int), false)
  | [.str z] => if z.length ≤ sizeLine then some (.int (z.length : Int), false) else none
  | _ => none
def absD : List D → Option DB
  | [.int i] => some (.int (if i < 0 then -i else i), false)
  | _ => none
def max2D : List D → Option DB
  | [.int i, .int j] => some (.int (if j > i then j else i), false)
  | _ => none
def min2D : List D → Option DB
  | [.int i, .int j] => some (.int (if j < i then j else i), false)
  | _ => none
def tupleD : List D → Option DB
  | [.lst ds] => some (.tup ds, false)
  | [.tup ds] => some (.tup ds, false)
  | _ => none
def listD : List D → Option DB
  | [.lst ds] => some (.lst ds, true)
  | [.tup ds] => some (.lst ds, true)
  | _ => none
def blsOf : List D → Option (List Bool)
  | [] => some []
  | .bl b :: r => (blsOf r).map (b :: ·)
  | _ => none
def intsOf : List D → Option (List Int)
  | [] => some []
  | .int b :: r => (intsOf r).map (b :: ·)
  | _ => none
def allD : List D → Option DB
  | [.lst ds] => (blsOf ds).map fun bs => (.bl (bs.all id), false)
  | _ => none
def anyD : List D → Option DB
  | [.lst ds] => (blsOf ds).map fun bs => (.bl (bs.any id), false)
  | _ => none
def sumD : List D → Option DB
  | [.lst ds] => (intsOf ds).map fun ns => (.int ns.sum, false)
  | _ => none
def intD : List D → Option DB
  | [.int i] => some (.int i, false)
  | [.bl b] => some (.int (if b then 1 else 0), false)
  | _ => none
def tyName : D → Option String
  | .non => some "NoneType"
  | .bl _ => some "bool"
  | .int _ => some "int"
  | .str _ => some "str"
  | .tup _ => some "tuple"
  | .lst _ => some "list"
  | .dct _ _ => some "dict"
  | _ => none
/-- is a value of the type a one of b -/
def isiT : String → String → Option Bool
  | "NoneType", "int" => some false
  | "NoneType", "bool" => some false
  | "NoneType", "str" => some false
  | "NoneType", "tuple" => some false
  | "NoneType", "list" => some false
  | "bool", "int" => some true
  | "bool", "bool" => some true
  | "bool", "str" => some false
  | "bool", "tuple" => some false
  | "bool", "list" => some false
  | "int", "int" => some true
  | "int", "bool" => some false
  | "int", "str" => some false
  | "int", "tuple" => some false
  | "int", "list" => some false
  | "str", "int" => some false
  | "str", "bool" => some false
  | "str", "str" => some true
  | "str", "tuple" => some false
  | "str", "list" => some false
  | "tuple", "int" => some false
  | "tuple", "bool" => some false
  | "tuple", "str" => some false
  | "tuple", "tuple" => some true
  | "tuple", "list" => some false
  | "list", "int" => some false
  | "list", "bool" => some false
  | "list", "str" => some false
  | "list", "tuple" => some false
  | "list", "list" => some true
  | "dict", "int" => some false
  | "dict", "bool" => some false
  | "dict", "str" => some false
  | "dict", "tuple" => some false
  | "dict", "list" => some false
  | _, _ => none
theorem isiT_kit : ∀ {a b : String} {r : Bool}, isiT a b = some r → kitB a b = some r := by
  intro a b r h
  unfold isiT at h
  split at h <;> first | (cases h; decide +kernel) | cases h
def isiD : List D → Option DB
  | [d, .ty n] => match tyName d with
    | some t => (isiT t n).map fun b => (.bl b, false)
    | none => none
  | _ => none
def reprD : List D → Option DB
  | [d] => match d.py with
    | some p => if PyData.showable p = true ∧ p.shown.length ≤ sizeLine ∧ p.depth ≤ 60 ∧ PyData.hasDict p = false then some (.str p.shown, false) else none
    | none => none
  | _ => none

section
variable {X : Cx}
theorem call_lenDd : CallR X (.builtin "len") (Pu X.K lenD) := by
  intro pins s σ H xs us Q I r h
  obtain ⟨bx, W, ds, t, q, e, k⟩ := h
  unfold lenD at e
  split at e
  · cases e
    obtain ⟨v, vs, rfl, h1, h2⟩ := q.uncons
    rw [h2.unnil] at r
    obtain ⟨a, xs, rfl, q1, q2⟩ := h1.lst
    exact call_len pins s σ H _ us Q I r ⟨_, _, rfl, .inl ⟨xs, q1, rfl⟩, k _ H Grow.refl (ResN.old (by rw [q2.length]; exact Rep.mint))⟩
  · cases e
    obtain ⟨v, vs, rfl, h1, h2⟩ := q.uncons
    rw [h2.unnil] at r
    obtain ⟨a, xs, rfl, q1, q2⟩ := h1.tup
    exact call_len pins s σ H _ us Q I r ⟨_, _, rfl, .inr ⟨xs, q1, rfl⟩, k _ H Grow.refl (ResN.old (by rw [q2.length]; exact Rep.mint))⟩
  · split at e
    · rename_i c
      cases e
      obtain ⟨v, vs, rfl, h1, h2⟩ := q.uncons
      rw [h2.unnil, h1.str] at r
      exact call_len pins s σ H _ us Q I r ⟨_, _, rfl, ⟨c, rfl⟩, k _ H Grow.refl (ResN.old Rep.mint)⟩
    · cases e
  · cases e
theorem call_absD : CallR X (.builtin "abs") (Pu X.K absD) := by
  intro pins s σ H xs us Q I r h
  obtain ⟨bx, W, ds, t, q, e, k⟩ := h
  unfold absD at e
  split at e
  · cases e
    obtain ⟨v, vs, rfl, h1, h2⟩ := q.uncons
    rw [h2.unnil, h1.int] at r
    exact call_abs pins s σ H _ us Q I r ⟨_, rfl, k _ H Grow.refl (ResN.old Rep.mint)⟩
  · cases e
theorem call_max2D (hc : X.calm = true) : CallR X (.builtin "max") (Pu X.K max2D) := by
  intro pins s σ H xs us Q I r h
  obtain ⟨bx, W, ds, t, q, e, k⟩ := h
  unfold max2D at e
  split at e
  · cases e
    obtain ⟨v, vs, rfl, h1, h2⟩ := q.uncons
    obtain ⟨v', vs', rfl, h3, h4⟩ := h2.uncons
    rw [h4.unnil, h1.int, h3.int] at r
    exact call_max2 hc pins s σ H _ us Q I r ⟨_, _, rfl, k _ H Grow.refl (ResN.old Rep.mint)⟩
  · cases e
theorem call_min2D (hc : X.calm = true) : CallR X (.builtin "min") (Pu X.K min2D) := by
  intro pins s σ H xs us Q I r h
  obtain ⟨bx, W, ds, t, q, e, k⟩ := h
  unfold min2D at e
  split at e
  · cases e
    obtain ⟨v, vs, rfl, h1, h2⟩ := q.uncons
    obtain ⟨v', vs', rfl, h3, h4⟩ := h2.uncons
    rw [h4.unnil, h1.int, h3.int] at r
    exact call_min2 hc pins s σ H _ us Q I r ⟨_, _, rfl, k _ H Grow.refl (ResN.old Rep.mint)⟩
  · cases e
theorem call_tupleD : CallR X (.type "tuple") (Pu X.K tupleD) := by
  intro pins s σ H xs us Q I r h
  obtain ⟨bx, W, ds, t, q, e, k⟩ := h
  unfold tupleD at e
  split at e
  · cases e
    obtain ⟨v, vs, rfl, h1, h2⟩ := q.uncons
    rw [h2.unnil] at r
    obtain ⟨a, xs, rfl, q1, q2⟩ := h1.lst
    exact call_tuple_of pins s σ H _ us Q I r ⟨_, _, rfl, .inl ⟨q1, fun p hp => k _ _ (Grow.new hp) (ResN.newT hp q2)⟩⟩
  · cases e
    obtain ⟨v, vs, rfl, h1, h2⟩ := q.uncons
    rw [h2.unnil] at r
    obtain ⟨a, xs, rfl, q1, q2⟩ := h1.tup
    exact call_tuple_of pins s σ H _ us Q I r ⟨_, _, rfl, .inr ⟨q1, k _ H Grow.refl (ResN.old h1)⟩⟩
  · cases e
theorem call_listD : CallR X (.type "list") (Pu X.K listD) := by
  intro pins s σ H xs us Q I r h
  obtain ⟨bx, W, ds, t, q, e, k⟩ := h
  unfold listD at e
  split at e
  · cases e
    obtain ⟨v, vs, rfl, h1, h2⟩ := q.uncons
    rw [h2.unnil] at r
    obtain ⟨a, xs, rfl, q1, q2⟩ := h1.lst
    exact call_list_of pins s σ H _ us Q I r ⟨_, _, rfl, .inl q1, fun p hp => k _ _ (Grow.new hp) (ResN.newL hp q2)⟩
  · cases e
    obtain ⟨v, vs, rfl, h1, h2⟩ := q.uncons
    rw [h2.unnil] at r
    obtain ⟨a, xs, rfl, q1, q2⟩ := h1.tup
    exact call_list_of pins s σ H _ us Q I r ⟨_, _, rfl, .inr q1, fun p hp => k _ _ (Grow.new hp) (ResN.newL hp q2)⟩
  · cases e
theorem blsOf_eq : ∀ {ds : List D} {bs : List Bool}, blsOf ds = some bs → ds = bs.map D.bl
  | [], bs, h => by cases h; rfl
  | d :: ds, bs, h => by
    unfold blsOf at h
    split at h
    · rename_i q; cases q
    · rename_i b r q
      cases q
      obtain ⟨c, e, rfl⟩ := Option.map_eq_some_iff.mp h
      rw [blsOf_eq e]; rfl
    · cases h
theorem intsOf_eq : ∀ {ds : List D} {bs : List Int}, intsOf ds = some bs → ds = bs.map D.int
  | [], bs, h => by cases h; rfl
  | d :: ds, bs, h => by
    unfold intsOf at h
    split at h
    · rename_i q; cases q
    · rename_i b r q
      cases q
      obtain ⟨c, e, rfl⟩ := Option.map_eq_some_iff.mp h
      rw [intsOf_eq e]; rfl
    · cases h
theorem RepL.unbls {K : PySem.W.Frag} {bx : Bxs} {W : Wd} {H : Hp} : ∀ {ns : List Bool} {vs : List V}, RepL K bx W H (ns.map D.bl) vs → vs = ns.map V.bl
  | [], vs, h => h.unnil
  | n :: ns, vs, h => by
    obtain ⟨v, vs', rfl, h3, h4⟩ := h.uncons
    rw [h3.bl, RepL.unbls h4]; rfl
theorem call_allD (hc : X.calm = true) : CallR X (.builtin "all") (Pu X.K allD) := by
  intro pins s σ H xs us Q I r h
  obtain ⟨bx, W, ds, t, q, e, k⟩ := h
  unfold allD at e
  split at e
  · obtain ⟨bs, e1, rfl⟩ := Option.map_eq_some_iff.mp e
    obtain ⟨v, vs, rfl, h1, h2⟩ := q.uncons
    rw [h2.unnil] at r
    obtain ⟨a, xs, rfl, q1, q2⟩ := h1.lst
    rw [blsOf_eq e1] at q2
    rw [q2.unbls] at q1
    exact cr_all hc pins s σ H _ us Q I r ⟨a, bs, rfl, q1, k _ H Grow.refl (ResN.old Rep.mbl)⟩
  · cases e
theorem call_anyD (hc : X.calm = true) : CallR X (.builtin "any") (Pu X.K anyD) := by
  intro pins s σ H xs us Q I r h
  obtain ⟨bx, W, ds, t, q, e, k⟩ := h
  unfold anyD at e
  split at e
  · obtain ⟨bs, e1, rfl⟩ := Option.map_eq_some_iff.mp e
    obtain ⟨v, vs, rfl, h1, h2⟩ := q.uncons
    rw [h2.unnil] at r
    obtain ⟨a, xs, rfl, q1, q2⟩ := h1.lst
    rw [blsOf_eq e1] at q2
    rw [q2.unbls] at q1
    exact cr_any hc pins s σ H _ us Q I r ⟨a, bs, rfl, q1, k _ H Grow.refl (ResN.old Rep.mbl)⟩
  · cases e
theorem call_sumD (hc : X.calm = true) : CallR X (.builtin "sum") (Pu X.K sumD) := by
  intro pins s σ H xs us Q I r h
  obtain ⟨bx, W, ds, t, q, e, k⟩ := h
  unfold sumD at e
  split at e
  · obtain ⟨bs, e1, rfl⟩ := Option.map_eq_some_iff.mp e
    obtain ⟨v, vs, rfl, h1, h2⟩ := q.uncons
    rw [h2.unnil] at r
    obtain ⟨a, xs, rfl, q1, q2⟩ := h1.lst
    rw [intsOf_eq e1] at q2
    rw [q2.unints] at q1
    exact cr_sum hc pins s σ H _ us Q I r ⟨a, bs, rfl, q1, k _ H Grow.refl (ResN.old Rep.mint)⟩
  · cases e
theorem call_intD : CallR X (.type "int") (Pu X.K intD) := by
  intro pins s σ H xs us Q I r h
  obtain ⟨bx, W, ds, t, q, e, k⟩ := h
  unfold intD at e
  split at e
  · cases e
    obtain ⟨v, vs, rfl, h1, h2⟩ := q.uncons
    rw [h2.unnil, h1.int] at r
    exact call_int1 pins s σ H _ us Q I r (.inl ⟨_, rfl, k _ H Grow.refl (ResN.old Rep.mint)⟩)
  · cases e
    obtain ⟨v, vs, rfl, h1, h2⟩ := q.uncons
    rw [h2.unnil, h1.bl] at r
    exact call_int1 pins s σ H _ us Q I r (.inr ⟨_, rfl, k _ H Grow.refl (ResN.old Rep.mint)⟩)
  · cases e
theorem tyX_of {K : PySem.W.Frag} {bx : Bxs} {W : Wd} {H : Hp} {d : D} {v : V} {n : String} (h : Rep K bx W H d v) (e : tyName d = some n) : TyX K H v (.type n) := by
  cases d with
  | non => cases e; rw [h.non]; exact .base .non
  | bl b => cases e; rw [h.bl]; exact .base (.bl b)
  | int b => cases e; rw [h.int]; exact .base (.int b)
  | str b => cases e; rw [h.str]; exact .base (.str b)
  | tup ds =>
    cases e
    obtain ⟨a, xs, rfl, q, _⟩ := h.tup
    rcases q with (q | ⟨o, q⟩) | ⟨o, its, n, q1, q2, _⟩
    · exact .base (.tup q)
    · exact .fTuple q
    · exact .kTuple q1 q2
  | lst ds =>
    cases e
    obtain ⟨a, xs, rfl, q, _⟩ := h.lst
    rcases q with (q | ⟨o, q⟩) | ⟨o, its, n, q1, q2, _⟩
    · exact .base (.lst q)
    · exact .base (.frz q)
    · exact .kList q1 q2
  | dct ks ds =>
    cases e
    unfold Rep at h
    obtain ⟨a, xs, rfl, _, q, _⟩ := h
    rcases q with q | ⟨o, q⟩
    · exact .base (.dK q)
    · exact .fDict q
  | _ => cases e
theorem call_isiD : CallR X (.builtin "isinstance") (Pu X.K isiD) := by
  intro pins s σ H xs us Q I r h
  obtain ⟨bx, W, ds, t, q, e, k⟩ := h
  unfold isiD at e
  split at e
  · rename_i d n
    split at e
    · rename_i ty hty
      obtain ⟨b, e1, rfl⟩ := Option.map_eq_some_iff.mp e
      obtain ⟨v, vs, rfl, h1, h2⟩ := q.uncons
      obtain ⟨v', vs', rfl, h3, h4⟩ := h2.uncons
      rw [h4.unnil, h3.ty] at r
      exact call_isi pins s σ H _ us Q I r ⟨_, _, _, _, b, rfl, .ty n, tyX_of h1 hty, kit_ty (isiT_kit e1), k _ H Grow.refl (ResN.old Rep.mbl)⟩
    · cases e
  · cases e
theorem call_reprD (hgd : X.A.guards = some []) (hu : X.A.units + 64 < cLine) : CallR X (.builtin "repr") (Pu X.K reprD) := by
  intro pins s σ H xs us Q I r h
  obtain ⟨bx, W, ds, t, q, e, k⟩ := h
  unfold reprD at e
  split at e
  · rename_i d
    split at e
    · rename_i p hp
      split at e
      · rename_i c
        cases e
        obtain ⟨v, vs, rfl, h1, h2⟩ := q.uncons
        rw [h2.unnil] at r
        obtain ⟨u, rfl, ru⟩ := vals1 r
        obtain ⟨as, rd⟩ := Dp.reads I p v u (Rep.dp _ _ _ h1 hp) ru
        obtain ⟨c1, c2, c3, c4⟩ := c
        have fin : ∀ (tk : Tok) (n : Nat), EP X pins σ Q (.str p.shown tk) { s with toks := n } := fun tk n => ⟨.str p.shown, H, I.tok _, ⟨_, rfl⟩, k _ H Grow.refl (ResN.old Rep.mstr)⟩
        cases rd with
        | none => exact PySem.P.repr_of_none (fin _ _)
        | bool b => exact PySem.P.repr_of_bool (fin _ _)
        | int i t => exact PySem.P.repr_of_int (of_decide_eq_true c1) (fin _ _)
        | str x t => exact PySem.P.repr_of_str (fin _ _) c2
        | list g1 g2 g3 g4 =>
          refine repr_of_reads' (.list g1 g2 g3 g4) c1 (fun z => by rw [c4] at z; cases z) hgd (by omega) (fun _ _ e => e) (fun h' u tk hk => ?_) c2
          exact ⟨.str _, H, I.kept (t' := tk) hk, ⟨_, rfl⟩, k _ H Grow.refl (ResN.old Rep.mstr)⟩
        | tuple g1 g2 g3 g4 =>
          refine repr_of_reads' (.tuple g1 g2 g3 g4) c1 (fun z => by rw [c4] at z; cases z) hgd (by omega) (fun _ _ e => e) (fun h' u tk hk => ?_) c2
          exact ⟨.str _, H, I.kept (t' := tk) hk, ⟨_, rfl⟩, k _ H Grow.refl (ResN.old Rep.mstr)⟩
        | dict _ _ _ _ _ => cases c4
      · cases e
    · cases e
  · cases e
end

def noPart : M (Option Int) := pure none
def part (m : M DB) : M (Option Int) := do
  let t ← m
  lift (match t.1 with
    | .int i => some (some i)
    | _ => none)
def cutD (xs : List D) (lo hi : Option Int) : List D := (xs.drop (HT.sIx xs.length 0 lo)).take (HT.sIx xs.length xs.length hi - HT.sIx xs.length 0 lo)
def slD (d : D) (lo hi : Option Int) : Option DB := match d with
  | .lst xs => some (.lst (cutD xs lo hi), true)
  | .tup xs => some (.tup (cutD xs lo hi), false)
  | .str z => if z.length ≤ sizeLine then some (.str (cutS z lo hi), false) else none
  | _ => none
def slM (m : M DB) (lo hi : M (Option Int)) : M DB := do
  let t ← m
  let l ← lo
  let u ← hi
  lift (slD t.1 l u)
def rdO (K : PySem.W.Frag) (m : M (Option Int)) : TO := fun σ H Q => ∃ F T bx s, Rel K F bx T s σ H ∧ ∃ o s', m s = .ok o s' ∧ ∀ bx' H', Stp K F T bx s σ H bx' T s' σ H' → Q o H'
def SO (X : Cx) (e : Option Expr) (m : M (Option Int)) : Prop := PO X e (rdO X.K m)
theorem PO.weak {X : Cx} {e : Option Expr} {t t' : TO} (h : PO X e t) (w : ∀ σ H Q, t' σ H Q → t σ H Q) : PO X e t' := ⟨fun pins s σ H Q I q => h.run pins s σ H Q I (w _ _ _ q)⟩
section
variable {X : Cx} {a e : Expr} {ma : M DB} {lo hi : Option Expr} {ml mh : M (Option Int)} {pos p2 : Pos}
theorem so_none : SO X none noPart := PO.weak po_none fun σ H Q h => by
  obtain ⟨F, T, bx, s, r, o, s', e, k⟩ := h
  cases e
  exact k bx H (Stp.refl r)
theorem so_some (h : SE X a ma) : SO X (some a) (part ma) := PO.weak (po_some h.d) fun σ H Q h => by
  obtain ⟨F, T, bx, s, r, o, s', e, k⟩ := h
  obtain ⟨t, s1, e1, e⟩ := bind_ok e
  obtain ⟨e2, rfl⟩ := lift_ok e
  refine ⟨F, T, bx, s, r, t.1, s', by rw [bind_run, e1]; rfl, fun v bx1 H1 x1 q1 => ?_⟩
  obtain ⟨d, fr⟩ := t
  cases d with
  | int i => cases e2; exact ⟨i, q1.int, k bx1 H1 x1⟩
  | _ => cases e2
theorem cutV_cutD {K : PySem.W.Frag} {bx : Bxs} {W : Wd} {H : Hp} {ds : List D} {vs : List V} (r : RepL K bx W H ds vs) (lo hi : Option Int) : RepL K bx W H (cutD ds lo hi) (cutV vs lo hi) := by
  unfold cutD cutV
  rw [r.length]
  exact (r.drop _).take _
theorem se_slice (ha : SE X a ma) (hl : SO X lo ml) (hh : SO X hi mh) : SE X (.Subscript a (.Slice lo hi none p2) pos) (slM ma ml mh) :=
  PE.weak (pe_slice (sl_list.or (sl_tupA.or sl_str)) ha.d hl hh) fun σ H Q h => by
    obtain ⟨F, T, bx, s, r, t, s', e, k⟩ := h
    obtain ⟨d, s1, e1, e⟩ := bind_ok e
    obtain ⟨l, s2, e2, e⟩ := bind_ok e
    obtain ⟨u, s3, e3, e⟩ := bind_ok e
    obtain ⟨e4, rfl⟩ := lift_ok e
    refine ⟨F, T, bx, s, r, d.1, s1, by rw [bind_run, e1]; rfl, fun v bx1 H1 x1 q1 => ⟨F, T, bx1, s1, x1.rel, l, s2, e2, fun bx2 H2 x2 => ⟨F, T, bx2, s2, x2.rel, u, s', e3, fun bx3 H3 x3 => ?_⟩⟩⟩
    have q3 := x3.tr _ _ (x2.tr _ _ q1)
    have xx := (x1.trans x2).trans x3
    have fin : ∀ w H4, Grow H3 H4 → ResN X.K bx3 (Wf F s' σ T) H3 H4 t w → Q w H4 := fun w H4 g q => by
      obtain ⟨y, z⟩ := ResN.res x3.rel g q
      exact k w bx3 H4 (xx.trans y) z
    obtain ⟨dd, fr⟩ := d
    cases dd with
    | lst xs =>
      cases e4
      obtain ⟨p, vs, rfl, h1, h2⟩ := q3.lst
      exact .inl ⟨p, vs, rfl, h1, fun q hq => fin _ _ (Grow.new hq) (ResN.newL hq (cutV_cutD h2 l u))⟩
    | tup xs =>
      cases e4
      obtain ⟨p, vs, rfl, h1, h2⟩ := q3.tup
      refine .inr (.inl ⟨p, vs, rfl, h1, fun c => fin _ _ Grow.refl (ResN.old ?_), fun c q hq => fin _ _ (Grow.new hq) (ResN.newT hq (cutV_cutD h2 l u))⟩)
      have : cutD xs l u = xs := by
        unfold cutD
        rw [h2.length, c.1, c.2, List.drop_zero, Nat.sub_zero, List.take_of_length_le (Nat.le_of_eq h2.length)]
      rw [this]; exact q3
    | str z =>
      have e4 : (if z.length ≤ sizeLine then some (D.str (cutS z l u), false) else none) = some t := e4
      split at e4
      · rename_i c
        cases e4
        exact .inr (.inr ⟨z, q3.str, c, fin _ _ Grow.refl (ResN.old Rep.mstr)⟩)
      · cases e4
    | _ => cases e4
end
end L2.Pd
set_option maxHeartbeats 4000000
namespace L2.Pd
open PySem PySem.Spec PyProof.Rows

/-- enumerate's object, at its start, over the iterator at p -/
abbrev enumObj (p : Addr) : Obj := { cls := .type "enumerate", data := .fields #[.none, .bool false, .ref p, rawInt 0, .none, .none] }
theorem enum_new {v : Value} {o : Obj} {H : Heap → Prop} (B : Begins v o H) :
    Meets (Builtin.«enumerate.__new__» ⟨[.type "enumerate", v], []⟩) fun _ R s => H s.heap ∧ R (.ok (.ret (.ref (s.heap.push o).objs.size))) { s with heap := (s.heap.push o).push (enumObj s.heap.objs.size) } := by
  apply Meets.of_wp
  rintro prog w A R ⟨hp, gens, dr, toks, os⟩ ⟨ready, rest⟩
  have isEnum := sub_enumerate
  have opened : ∀ {A' : Around} {E : Value → Shared → Prop} {Q : Value → Shared → Prop}, Q (.ref hp.objs.size) ⟨hp.push o, gens, dr, toks, os⟩ → wpAny (model prog w) A' (pyIter v) Q E ⟨hp, gens, dr, toks, os⟩ := by
    intro A' E Q q
    exact B.iter _ _ _ _ _ _ ready q
  wp_walk using opened
  apply wpAny_stack_any
  intro stack
  apply wpAny_pure
  split
  · rename_i c _ _ _ _ _
    cases (c == Value.type "enumerate") <;> (wp_walk using opened; exact ⟨_, rfl, rest⟩)
  · wp_walk using opened
    exact ⟨_, rfl, rest⟩
theorem enum_call {prog : Program} {w : World} {A : Around} {E : Value → Shared → Prop} {s : Shared} {v : Value} {o : Obj} {H : Heap → Prop} {Q : Value → Shared → Prop} (B : Begins v o H) (ready : H s.heap)
    (h : ∀ h' : Heap, h'.get? (s.heap.objs.size + 1) = some (enumObj s.heap.objs.size) → h'.get? s.heap.objs.size = some o → (∀ b z, s.heap.get? b = some z → h'.get? b = some z) → Q (.ref (s.heap.objs.size + 1)) { s with heap := h' }) :
    wpAny (model prog w) A (call (.type "enumerate") [v]) Q E s := by
  have one : (s.heap.push o).objs.size = s.heap.objs.size + 1 := Heap.size_push _ _
  have top : ((s.heap.push o).push (enumObj s.heap.objs.size)).get? (s.heap.objs.size + 1) = some (enumObj s.heap.objs.size) := by
    rw [← one]; exact Heap.get?_push_size _ rfl
  have kept : ∀ b z, s.heap.get? b = some z → ((s.heap.push o).push (enumObj s.heap.objs.size)).get? b = some z := fun b z e => Heap.get?_push_of_some _ (Heap.get?_push_of_some _ e)
  have under : ((s.heap.push o).push (enumObj s.heap.objs.size)).get? s.heap.objs.size = some o := Heap.get?_push_of_some _ (Heap.get?_push_size _ B.free)
  apply callType_new F.called_enumerate (by decide) (F.typeCall_enumerate_1 _) (F.newCall_enumerate_1 _) (fun z => F.args_object_init_2 z _) F.entry_enumerate_new (enum_new B)
  refine ⟨ready, ?_⟩
  rw [one]
  exact ⟨⟨_, top, rfl⟩, h _ top under kept⟩

/-- pairs of a number and an item of the tuple at a, each pair new -/
def IteT (K : PySem.W.Frag) (a : Addr) : It where
  go := fun i H => ∃ xs x, SqT K H a xs ∧ (xs[i]? : Option V) = some x
  yld := fun i H v H' => ∃ T x, v = .ref T ∧ H T = none ∧ H' = upd H T (.tup [.int (i : Nat), x]) ∧ ∀ xs, SqT K H a xs → xs[i]? = some x
  stop := fun i H => ∃ xs : List V, SqT K H a xs ∧ xs.length = i
/-- where such a walk stands -/
abbrev EnSt (a e it : Addr) (i : Nat) (h : Heap) : Prop := (∃ old, IsEnum h e it ((i : Nat) : Int) old) ∧ h.IsTupleIter it a i ∧ e ≠ it
section
variable {h : Heap} {a e it : Addr} {i : Nat} {its : Array Value}
theorem mem2 {b c d : Addr} (h : b ∈ [c, d]) : b = c ∨ b = d := by simpa using h
/-- three objects of three classes -/
theorem EnSt.apart (x : EnSt a e it i h) (p : h.IsTuple a its) : a ≠ it ∧ e ≠ a := by
  obtain ⟨⟨_, en⟩, ⟨o1, g1, c1, _⟩, _⟩ := x
  obtain ⟨o2, g2, c2, _⟩ := p
  constructor
  · rintro rfl
    rw [g1] at g2
    cases g2
    rw [c1] at c2
    exact absurd (Value.type.inj c2) (by decide)
  · rintro rfl
    have en : h.get? e = some _ := en
    rw [en] at g2
    cases g2
    exact absurd (Value.type.inj c2) (by decide)
theorem EnSt.low (x : EnSt a e it i h) : ∀ b ∈ [e, it], b < h.objs.size := by
  obtain ⟨⟨_, en⟩, ⟨_, g, _⟩, _⟩ := x
  intro b hb
  rcases mem2 hb with rfl | rfl
  · exact Heap.lt_size en
  · exact Heap.lt_size g
end
theorem turn_enumT {P : Program} {w : World} {K : PySem.W.Frag} {elts : List Expr} {kk : Nat} {tpos : Pos} (a e it : Addr) : Turn P w K (.Tuple elts kk tpos) (IteT K a) [e, it] e (EnSt a e it) where
  mem := List.mem_cons_self
  obj := by
    rintro i h ⟨⟨_, en⟩, ⟨o, g, _, dat⟩, _⟩ b hb
    rcases mem2 hb with rfl | rfl
    · exact ⟨_, en, fun v => by intro z; cases z⟩
    · exact ⟨o, g, fun v z => by rw [dat] at z; cases z⟩
  keep := by
    rintro i h h' ⟨⟨old, en⟩, tu, ne⟩ k
    exact ⟨⟨old, k _ List.mem_cons_self _ en⟩, tu.at fun o => k it (List.mem_cons_of_mem _ List.mem_cons_self) o, ne⟩
  self := by
    rintro A i s Q E ⟨⟨_, en⟩, _⟩ q
    exact wpAny_pyIter_enum en q
  item := by
    rintro X rfl rfl rfl calm i pins s σ H E I free here ⟨xs, y, sq, hy⟩
    obtain ⟨its, vals, tup, _⟩ := I.tuple sq
    obtain ⟨u, hu, ru⟩ := vals.get hy
    have far := here.apart tup
    have low := here.low
    obtain ⟨⟨old, en⟩, tu, ne⟩ := here
    have inside : i < its.toArray.size := by simpa using (List.getElem?_eq_some_iff.mp hu).1
    have other : e ∉ [it, a] := fun z => (mem2 z).elim ne far.2
    apply wpAny_pyNext_enum_itemC (Draws.tuple (prog := X.prog) (w := X.w) (A := X.A.in1) (I.ok.hd calm) it a far.1 its.toArray) en ⟨tu, tup⟩ inside ne other
    intro got h1 tk isGot enOut st1 pair kept1
    intro kept
    have same : got = u := by
      have q : its.toArray[i]? = some got := isGot
      rw [List.getElem?_toArray, hu] at q
      exact (Option.some.inj q).symm
    rw [same] at enOut pair
    refine ⟨_, rfl, ?_⟩
    apply wpAny_letOwnedTupleGo_enum (s := { s with heap := h1, toks := tk + 1 }) enOut
    intro h2 en2 sb
    have fresh : H s.heap.objs.size = none := I.hok.fresh (Nat.le_refl _)
    have young : ∀ b ∈ [e, it], b ≠ s.heap.objs.size := fun b hb => Nat.ne_of_lt (low b hb)
    have pair2 : h2.get? s.heap.objs.size = some _ := (sb.2 _ (young e List.mem_cons_self).symm).trans pair
    have made : ObjOk X.prog X.w (upd H s.heap.objs.size (.tup [.int (i : Nat), y])) h2 s.heap.objs.size (.tup [.int (i : Nat), y]) :=
      ⟨by show 2 ≤ sizeLine; decide, [.int i tk, u], .cons ⟨tk, rfl⟩ (.cons ru .nil), _, pair2, rfl, _, rfl⟩
    have old2 : ∀ b z, b ∉ [e, it] → s.heap.get? b = some z → h2.get? b = some z := fun b z nb q => by
      have n := not_or.mp (fun w => nb (by simpa using w))
      exact (sb.2 b n.1).trans (kept b z n.1 (by simpa using n.2) q)
    have J := I.turnedNew (t' := tk + 1) (ch := [e, it]) old2 free (Nat.le_refl _) made
    have num : ((i : Nat) : Int) + 1 = ((i + 1 : Nat) : Int) := by omega
    rw [num] at en2
    exact ⟨.ref s.heap.objs.size, _, J, rfl, ⟨_, y, rfl, fresh, rfl, fun ys hs => by rw [I.tuple_inj hs sq]; exact hy⟩, ⟨⟨u, en2⟩, st1.1.at fun o q => (sb.2 it (Ne.symm ne)).trans q, ne⟩, fun b hb => by
      rw [upd_ne (young b hb)]; exact (free b hb).1⟩
  done := by
    rintro X rfl rfl rfl calm i pins s σ H E I free here ⟨xs, sq, len⟩
    obtain ⟨its, vals, tup, _⟩ := I.tuple sq
    have far := here.apart tup
    obtain ⟨⟨old, en⟩, tu, ne⟩ := here
    have ends : its.toArray.size = i := by rw [List.size_toArray, ← vals.length]; exact len
    rw [← ends] at tu
    apply wpAny_pyNext_enum_endD (Draws.tuple (prog := X.prog) (w := X.w) (A := X.A.in1) (I.ok.hd calm) it a far.1 its.toArray) en ⟨tu, tup⟩
    intro h1 same
    obtain ⟨p1, p2, p3, p4, p5, p6⟩ := free it (List.mem_cons_of_mem _ List.mem_cons_self)
    exact ⟨rfl, I.turned (t' := s.toks) same p1 p2 p4 p5 p6⟩
def iSeq (K : PySem.W.Frag) (tl : TE) : TI := fun σ H R => tl σ H fun x H1 => ∃ a, x = .ref a ∧ (((∃ xs, SqL K H1 a xs) ∧ R (Itl K a) H1) ∨ ((∃ xs, SqT K H1 a xs) ∧ R (Itt K a) H1))
def iEnumA (K : PySem.W.Frag) (ta : TA) : TI := fun σ H R => ta σ H fun vs H1 => ∃ a, vs = [.ref a] ∧ (((∃ xs, SqL K H1 a xs) ∧ R (Ite K a) H1) ∨ ((∃ xs, SqT K H1 a xs) ∧ R (IteT K a) H1))
section
variable {X : Cx} {tg a : Expr} {m : M DB} {mr : M (List D)} {p pos tpos : Pos}
theorem pi_seq {l : Expr} {tl : TE} (hl : PE X l tl) : PI X tg l (iSeq X.K tl) := by
  constructor
  intro pins s σ H R I h
  refine thn (hl.run pins s σ H _ I h) ?_
  rintro v t ⟨_, H1, J, rel, a, rfl, way⟩
  have rel : v = .ref a := rel
  rw [rel]
  have mine : ∀ b ∈ [t.heap.objs.size], FpOk X pins H1 b := fun b hb => by
    rw [List.mem_singleton.mp hb]
    exact J.fpOk (Nat.le_refl _) (J.hok.fresh (Nat.le_refl _))
  rcases way with ⟨⟨xs, sq⟩, go⟩ | ⟨⟨xs, sq⟩, go⟩
  · obtain ⟨its, _, p, _⟩ := J.list sq
    apply wpAny_pyIter_list p.isList
    exact ⟨_, _, _, _, H1, rfl, J.kept (t' := t.toks) fun b z e => Heap.get?_push_of_some _ e, turn_list a _, ⟨_, Heap.get?_push_size _ rfl, rfl, rfl⟩, mine, go⟩
  · obtain ⟨its, _, p, _⟩ := J.tuple sq
    apply wpAny_pyIter_tuple (items := its.toArray) p
    exact ⟨_, _, _, _, H1, rfl, J.kept (t' := t.toks) fun b z e => Heap.get?_push_of_some _ e, turn_tuple a _, ⟨_, Heap.get?_push_size _ rfl, rfl, rfl⟩, mine, go⟩
theorem pi_enumA {e : Expr} {ta : TA} {elts : List Expr} {kk : Nat} (hg : Gl X "enumerate") (hm : X.mg "enumerate" = none) (ha : PA X [e] ta) (hs : starEach [e] X.env = [(false, eval e X.env)] := by rfl) :
    PI X (.Tuple elts kk tpos) (.Call (.Name "enumerate" p) [e] [] pos) (iEnumA X.K ta) := by
  constructor
  intro pins s σ H R I h
  refine Call_ (ld_blt I hg hm boot_enumerate (PyProof.Rows.callWith_type1 (thn (ha.run pos pins s σ H _ I h) ?_) hs rfl))
  rintro us t ⟨_, H1, J, rel, a, rfl, way⟩
  obtain ⟨u, rfl, ru⟩ := vals1 rel
  have ru : u = .ref a := ru
  rw [ru]
  have mine : ∀ b ∈ [t.heap.objs.size + 1, t.heap.objs.size], FpOk X pins H1 b := fun b hb => by
    have far : t.heap.objs.size ≤ b := by
      rcases mem2 hb with rfl | rfl
      · omega
      · exact Nat.le_refl _
    exact J.fpOk far (J.hok.fresh far)
  rcases way with ⟨⟨xs, sq⟩, go⟩ | ⟨⟨xs, sq⟩, go⟩
  · obtain ⟨its, _, p, _⟩ := J.list sq
    apply call_enumerate_list p.isList
    intro h' en tu _ kept
    apply wpAny_pyIter_enum en
    exact ⟨_, _, _, _, H1, rfl, J.kept (t' := t.toks) kept, turn_enum a _ _, ⟨⟨_, en⟩, tu, Nat.succ_ne_self _⟩, mine, go⟩
  · obtain ⟨its, _, p, _⟩ := J.tuple sq
    apply enum_call (begins_tuple a its.toArray) p
    intro h' en tu kept
    have en : IsEnum h' (t.heap.objs.size + 1) t.heap.objs.size 0 .none := en
    apply wpAny_pyIter_enum en
    exact ⟨_, _, _, _, H1, rfl, J.kept (t' := t.toks) kept, turn_enumT a _ _, ⟨⟨_, en⟩, ⟨_, tu, rfl, rfl⟩, Nat.succ_ne_self _⟩, mine, go⟩
/-- the numbered items -/
def numD : Nat → List D → List D
  | _, [] => []
  | n, d :: ds => .tup [.int (n : Int), d] :: numD (n + 1) ds
theorem numD_length : ∀ (ds : List D) (n : Nat), (numD n ds).length = ds.length
  | [], _ => rfl
  | d :: ds, n => by unfold numD; rw [List.length_cons, List.length_cons, numD_length ds]
theorem numD_get : ∀ (ds : List D) (n i : Nat) (d : D), (numD n ds)[i]? = some d → ∃ e, ds[i]? = some e ∧ d = .tup [.int ((n + i : Nat) : Int), e]
  | [], n, i, d, h => by simp [numD] at h
  | e :: ds, n, 0, d, h => by
    simp [numD] at h
    exact ⟨e, rfl, h.symm⟩
  | e :: ds, n, i + 1, d, h => by
    unfold numD at h
    obtain ⟨x, h1, h2⟩ := numD_get ds (n + 1) i d (by simpa using h)
    exact ⟨x, by simpa using h1, by rw [h2]; congr 3; omega⟩
def seqI (m : M DB) : M (List D) := do
  let t ← m
  lift (seqD t.1)
def enumI (m : M (List D)) : M (List D) := do
  let ds ← m
  lift (match ds with
    | [d] => (seqD d).map (numD 0)
    | _ => none)
theorem yields_pairs {K : PySem.W.Frag} {F : Fm} {bx : Bxs} {W : Wd} {H : Hp} {ds : List D} {J : It} (h : ∀ bx' W' H', (∀ d v, Rep K bx W H d v → Rep K bx' W' H' d v) → ∃ xs, RepL K bx' W' H' ds xs ∧
    (∀ i x, xs[i]? = some x → J.go i H') ∧ (∀ i y H'', J.yld i H' y H'' → ∃ T x, y = .ref T ∧ H' T = none ∧ H'' = upd H' T (.tup [.int (i : Nat), x]) ∧ xs[i]? = some x) ∧ J.stop xs.length H') : Yields K F J bx W H (numD 0 ds) := by
  intro bx' W' H' tr _
  obtain ⟨xs, r, h1, h2, h3⟩ := h bx' W' H' tr
  refine ⟨fun i hi => ?_, by rw [numD_length, r.length]; exact h3⟩
  rw [numD_length] at hi
  obtain ⟨v, e, q⟩ := r.get (List.getElem?_eq_getElem hi)
  refine ⟨h1 i v e, fun y H'' hy => ?_⟩
  obtain ⟨T, x, rfl, hT, rfl, hx⟩ := h2 i y H'' hy
  refine ⟨Grow.new hT, fun d hd => ?_⟩
  obtain ⟨e', he, rfl⟩ := numD_get ds 0 i d hd
  rw [List.getElem?_eq_getElem hi] at he
  cases he
  rw [e] at hx
  cases hx
  refine Rep.mtup (.of upd_same) (.cons ?_ (.cons (q.grow (Grow.new hT) fun _ z => .inl z) .nil))
  rw [Nat.zero_add]
  exact Rep.mint
theorem yields_enumL {K : PySem.W.Frag} {F : Fm} {bx : Bxs} {W : Wd} {H : Hp} {ds : List D} {a : Addr} (h : Rep K bx W H (.lst ds) (.ref a)) : Yields K F (Ite K a) bx W H (numD 0 ds) := yields_pairs fun bx' W' H' tr => by
  obtain ⟨b, xs, e, h1, h2⟩ := (tr _ _ h).lst
  cases e
  exact ⟨xs, h2, fun i x hx => ⟨xs, x, h1, hx⟩, fun i y H'' ⟨T, x, e1, e2, e3, e4⟩ => ⟨T, x, e1, e2, e3, e4 xs h1⟩, xs, h1, Nat.le_refl _⟩
theorem yields_enumT {K : PySem.W.Frag} {F : Fm} {bx : Bxs} {W : Wd} {H : Hp} {ds : List D} {a : Addr} (h : Rep K bx W H (.tup ds) (.ref a)) : Yields K F (IteT K a) bx W H (numD 0 ds) := yields_pairs fun bx' W' H' tr => by
  obtain ⟨b, xs, e, h1, h2⟩ := (tr _ _ h).tup
  cases e
  exact ⟨xs, h2, fun i x hx => ⟨xs, x, h1, hx⟩, fun i y H'' ⟨T, x, e1, e2, e3, e4⟩ => ⟨T, x, e1, e2, e3, e4 xs h1⟩, xs, h1, rfl⟩
theorem si_seq (h : SE X a m) : SI X tg a (seqI m) := PI.weak (pi_seq h.d) fun σ H R h => by
  obtain ⟨F, T, bx, s, r, ds, s', e, k⟩ := h
  obtain ⟨t, s1, e1, e⟩ := bind_ok e
  obtain ⟨e2, rfl⟩ := lift_ok e
  refine ⟨F, T, bx, s, r, t.1, s', by rw [bind_run, e1]; rfl, fun v bx1 H1 x1 q1 => ?_⟩
  obtain ⟨d, fr⟩ := t
  cases d with
  | lst ds' =>
    cases e2
    obtain ⟨a, xs, rfl, h1, h2⟩ := q1.lst
    exact ⟨a, rfl, .inl ⟨⟨xs, h1⟩, k _ bx1 H1 x1 (yields_list q1)⟩⟩
  | tup ds' =>
    cases e2
    obtain ⟨a, xs, rfl, h1, h2⟩ := q1.tup
    exact ⟨a, rfl, .inr ⟨⟨xs, h1⟩, k _ bx1 H1 x1 (yields_tup q1)⟩⟩
  | _ => cases e2
theorem si_enum {elts : List Expr} {kk : Nat} (hg : Gl X "enumerate") (hm : X.mg "enumerate" = none) (ha : SA X [a] mr) (hs : starEach [a] X.env = [(false, eval a X.env)] := by rfl) :
    SI X (.Tuple elts kk tpos) (.Call (.Name "enumerate" p) [a] [] pos) (enumI mr) := PI.weak (pi_enumA hg hm ha hs) fun σ H R h => by
  obtain ⟨F, T, bx, s, r, ds, s', e, k⟩ := h
  obtain ⟨xs, s1, e1, e⟩ := bind_ok e
  obtain ⟨e2, rfl⟩ := lift_ok e
  refine ⟨F, T, bx, s, r, xs, s', e1, fun vs bx1 H1 x1 q1 => ?_⟩
  split at e2
  · rename_i d
    obtain ⟨v, vs', rfl, q2, q3⟩ := q1.uncons
    rw [q3.unnil]
    cases d with
    | lst ds' =>
      cases e2
      obtain ⟨a, xs, rfl, h1, h2⟩ := q2.lst
      exact ⟨a, rfl, .inl ⟨⟨xs, h1⟩, k _ bx1 H1 x1 (yields_enumL q2)⟩⟩
    | tup ds' =>
      cases e2
      obtain ⟨a, xs, rfl, h1, h2⟩ := q2.tup
      exact ⟨a, rfl, .inr ⟨⟨xs, h1⟩, k _ bx1 H1 x1 (yields_enumT q2)⟩⟩
    | _ => cases e2
  · cases e2
def rgOk (a b : Int) : Bool := small62 a && small62 b && decide ((b - a).toNat ≤ 2 ^ 24)
def lrg1 (m : M DB) : M DB := do
  let t ← m
  lift (match t.1 with
    | .int j => if rgOk 0 j then some (.lst (rangeD 0 (j - 0).toNat), true) else none
    | _ => none)
theorem rgOk_ok {a b : Int} (h : rgOk a b = true) : RgOk a b := by
  unfold rgOk small62 at h
  simp only [Bool.and_eq_true, decide_eq_true_eq] at h
  exact ⟨h.1.1.1, h.1.1.2, h.1.2.1, h.1.2.2, h.2⟩
theorem rep_range {K : PySem.W.Frag} {bx : Bxs} {W : Wd} {H : Hp} {a b : Int} : RepL K bx W H (rangeD a (b - a).toNat) (rgV a b) := by
  have h := RepL.ints (K := K) (bx := bx) (W := W) (H := H) ((List.range (b - a).toNat).map fun (i : Nat) => a + (i : Int))
  rw [List.map_map, List.map_map] at h
  exact h
theorem se_listRange1 {p2 pos2 : Pos} (hc : X.calm = true) (hgl : Gl X "list") (hml : X.mg "list" = none) (hg : Gl X "range") (hm : X.mg "range" = none) (ha : SE X a m) (na : starEach [a] X.env = (false, eval a X.env) :: starEach [] X.env := by rfl)
    (nb : starEach [.Call (.Name "range" p2) [a] [] pos2] X.env = (false, eval (.Call (.Name "range" p2) [a] [] pos2) X.env) :: starEach [] X.env := by rfl) : SE X (.Call (.Name "list" p) [.Call (.Name "range" p2) [a] [] pos2] [] pos) (lrg1 m) :=
  PE.weak (pe_listRg hc hgl hml (prg_1 hg hm ha.d na) nb) fun σ H Q h => by
    obtain ⟨F, T, bx, s, r, t, s', e, k⟩ := h
    obtain ⟨d, s1, e1, e⟩ := bind_ok e
    obtain ⟨e2, rfl⟩ := lift_ok e
    refine ⟨F, T, bx, s, r, d.1, s', by rw [bind_run, e1]; rfl, fun v bx1 H1 x1 q1 => ?_⟩
    obtain ⟨dd, fr⟩ := d
    cases dd with
    | int j =>
      have e2 : (if rgOk 0 j = true then some (Pd.D.lst (rangeD 0 (j - 0).toNat), true) else none) = some t := e2
      split at e2
      · rename_i c
        cases e2
        refine ⟨j, q1.int, rgOk_ok c, fun q hq => ?_⟩
        obtain ⟨y, z⟩ := ResN.res x1.rel (Grow.new hq) (ResN.newL hq (rep_range (a := 0) (b := j)))
        exact k _ bx1 _ (x1.trans y) z
      · cases e2
    | _ => cases e2
end
end L2.Pd
set_option maxHeartbeats 4000000
namespace L2.Pd
open PySem PySem.Spec PyProof.Rows
theorem law_sp {K : PySem.W.Frag} {fn : Fn} (hl : ∀ ns : List Int, ns.length ≤ 63 → ∃ t st, fn [.lst (ns.map D.int)] [] = .ok t st ∧ t.1 = .bl true ∧ t.2 = false)
    (H : Hp) (a : Addr) (ns : List Int) (hn : ns.length ≤ 63) (hT : LamX.Tabs (tabsL K) H) (hS : SqL K H a (ns.map V.int)) : spF K 1 fn [.ref a] H (fun v _ => v = .bl true) fun _ _ _ => False := by
  obtain ⟨t, st, e, e1, e2⟩ := hl ns hn
  refine ⟨rfl, [], fun _ => False, [.lst (ns.map D.int)], [], .cons ?_ .nil, ⟨rfl, List.nodup_nil, fun n a h => by simp at h, hT⟩, fun _ _ z => z, fun _ z => z.elim, t, st, e, fun v bx' H' x => ?_⟩
  · unfold Rep
    exact ⟨a, _, rfl, hS.elim (fun z => .inl ⟨z, fun z => z, by simp⟩) .inr, RepL.ints ns⟩
  · obtain ⟨d, fr⟩ := t
    cases e2
    have e1 : d = .bl true := e1
    subst e1
    exact Rep.bl (show Rep K bx' _ H' (.bl true) v from x.res)
/-- the heap that is tracked at a law's start: the script, unless it is one of the written part -/
def hpScript (K : PySem.W.Frag) (a : Addr) (o : Obj) (xs : List V) : Hp := fun b => match K.lookup a with
  | none => if b = a then some (.frz o (.lst xs)) else none
  | some _ => none
section
variable {K : PySem.W.Frag} {a : Addr} {o : Obj} {xs : List V}
theorem hpScript_some {b : Addr} {u : HO} (h : hpScript K a o xs b = some u) : b = a ∧ K.lookup a = none ∧ u = .frz o (.lst xs) := by
  unfold hpScript at h
  cases q : K.lookup a with
  | some _ => rw [q] at h; cases h
  | none =>
    rw [q] at h
    by_cases e : b = a
    · simp only [if_pos e, Option.some.injEq] at h
      exact ⟨e, rfl, h.symm⟩
    · simp only [if_neg e] at h
      cases h
theorem hpScript_at (h : K.lookup a = none) : hpScript K a o xs a = some (.frz o (.lst xs)) := by
  unfold hpScript; rw [h]; simp only [if_true]
theorem hpScript_out {b : Addr} (h : b = a → K.lookup a ≠ none) : hpScript K a o xs b = none := by
  cases q : hpScript K a o xs b with
  | none => rfl
  | some u => obtain ⟨e, n, _⟩ := hpScript_some q; exact absurd n (h e)
theorem hpScript_only : Only (hpScript K a o xs) := fun b => by
  cases q : hpScript K a o xs b with
  | none => exact .inl rfl
  | some u => exact .inr ⟨o, xs, by rw [(hpScript_some q).2.2]⟩
end

abbrev Ended (h : Heap) (os : OsState) (r : Result) (s' : Shared) : Prop := r = .ok (.ret (.bool true)) ∧ OldK h s'.heap ∧ s'.os = os ∧ AllBare s'.gens
def isT (K : PySem.W.Frag) (P : Addr) : Prop := ∃ x ∈ lamNames, ∃ c, PySem.W.tabIn K x = some (c, P)
structure TabF (K : PySem.W.Frag) (h : Heap) : Prop where
  hd : ∀ x ∈ lamNames, ∀ c P, PySem.W.tabIn K x = some (c, P) → PySem.W.codeHdIn K c P = true ∧ K.lookup P = none ∧ h.get? P = some { cls := .none, data := .fields #[] }
  inj : ∀ x ∈ lamNames, ∀ y ∈ lamNames, ∀ c c' P, PySem.W.tabIn K x = some (c, P) → PySem.W.tabIn K y = some (c', P) → x = y
def tabChk (g : Addr → Option Obj) (K : PySem.W.Frag) : Bool := lamNames.all fun x => match PySem.W.tabIn K x with
  | none => true
  | some p => (PySem.W.codeHdIn K p.1 p.2 && (match g p.2 with
    | some o => He.emptyTab o
    | none => false)) && lamNames.all fun y => match PySem.W.tabIn K y with
      | none => true
      | some q => !decide (q.2 = p.2) || decide (x = y)
theorem tabF_of {g : Addr → Option Obj} {as : List Addr} (e : tabChk g (He.frT g as) = true) : ∀ h : Heap, h.get? = g → TabF (He.frT g as) h := by
  rintro h rfl
  have z := List.all_eq_true.mp e
  refine ⟨fun x hx c P q => ?_, fun x hx y hy c c' P q1 q2 => ?_⟩
  · have z := z x hx
    rw [q] at z
    obtain ⟨z, _⟩ := Bool.and_eq_true_iff.mp z
    obtain ⟨z1, z2⟩ := Bool.and_eq_true_iff.mp z
    have z2 : (match h.get? P with
      | some o => He.emptyTab o
      | none => false) = true := z2
    cases r : h.get? P with
    | none => rw [r] at z2; cases z2
    | some o =>
      rw [r] at z2
      exact ⟨z1, He.frT_none r z2, by rw [He.emptyTab_eq z2]⟩
  · have z := z x hx
    rw [q1] at z
    obtain ⟨_, z⟩ := Bool.and_eq_true_iff.mp z
    have z := List.all_eq_true.mp z y hy
    rw [q2] at z
    simpa using z
theorem tabsL_mem {K : PySem.W.Frag} {p : Addr × Str} (h : p ∈ tabsL K) : ∃ x ∈ lamNames, ∃ c, PySem.W.tabIn K x = some (c, p.1) ∧ p.2 = x ++ ".<locals>." ++ "<lambda>" := by
  unfold tabsL at h
  obtain ⟨x, hx, e⟩ := List.mem_filterMap.mp h
  cases q : PySem.W.tabIn K x with
  | none => rw [q] at e; cases e
  | some r => rw [q] at e; cases e; exact ⟨x, hx, r.1, q, rfl⟩
theorem tabsL_in {K : PySem.W.Frag} {x : Str} {c P : Addr} (hx : x ∈ lamNames) (q : PySem.W.tabIn K x = some (c, P)) : (P, x ++ ".<locals>." ++ "<lambda>") ∈ tabsL K := by
  unfold tabsL
  exact List.mem_filterMap.mpr ⟨x, hx, by rw [q]; rfl⟩
open Classical in
noncomputable def hpT (K : PySem.W.Frag) (a : Addr) (o : Obj) (xs : List V) : Hp := fun b => if isT K b then some (.tbl #[]) else hpScript K a o xs b
section
variable {K : PySem.W.Frag} {a b : Addr} {o : Obj} {xs : List V} {u : HO}
theorem hpT_tab (h : isT K b) : hpT K a o xs b = some (.tbl #[]) := by unfold hpT; exact if_pos h
theorem hpT_ne (h : ¬ isT K b) : hpT K a o xs b = hpScript K a o xs b := by unfold hpT; exact if_neg h
theorem hpT_some (h : hpT K a o xs b = some u) : (isT K b ∧ u = .tbl #[]) ∨ (¬ isT K b ∧ b = a ∧ K.lookup a = none ∧ u = .frz o (.lst xs)) := by
  by_cases t : isT K b
  · rw [hpT_tab t] at h; cases h; exact .inl ⟨t, rfl⟩
  · rw [hpT_ne t] at h; exact .inr ⟨t, hpScript_some h⟩
theorem hpT_out (t : ¬ isT K b) (h : b = a → K.lookup a ≠ none) : hpT K a o xs b = none := by rw [hpT_ne t]; exact hpScript_out h
theorem hpT_tabs : LamX.Tabs (tabsL K) (hpT K a o xs) := fun p hp => by
  obtain ⟨x, hx, c, q, _⟩ := tabsL_mem hp
  exact LamX.TabS.nil (hpT_tab ⟨x, hx, c, q⟩)
end
/-- the law's def is called with the script -/
theorem law_run {P : Program} {w : World} {K : PySem.W.Frag} {mg mb : Str → Option Value} {k : Nat} {g a : Addr} {fd : FuncData} {x : Str} {fn : Fn} {s : Shared} {us : List Value} {ns : List Int}
    (kin : K.In s.heap) (nsM : s.heap.Ns mainGlobals mg) (nsB : s.heap.Ns builtinsNs mb) (boot : ∀ y : Str, y ≠ "__name__" → mb y = bootBuiltins y) (lim : s.heap.NoLimit) (gens : s.gens = #[])
    (tabs : TabF K s.heap) (hbm : ∃ (bm : Addr) (ob : Obj), mg "__builtins__" = some (.ref bm) ∧ bm ≠ builtinsNs ∧ s.heap.get? bm = some ob ∧ ob.cls = .type "module" ∧ ob.dict = some builtinsNs ∧ ob.data = .plain)
    (obj : s.heap.get? a = some { cls := .type "list", data := .seq us.toArray }) (whole : IntsAre us ns) (short : ns.length ≤ 63) (room : Room k callerA)
    (good : ∀ base : Heap, K.In base → base.Ns mainGlobals mg → (∀ x ∈ lamNames, ∀ c P, PySem.W.tabIn K x = some (c, P) → LamX.TabB base mg c P) → FnOkG P w K mg base CX0 k g fd [x] (spF K 1 fn)) (binds : ∀ (t : Shared) (u : Value), BindsTo t fd ⟨[u], []⟩ [(x, u)])
    (promise : ∀ (H : Hp), LamX.Tabs (tabsL K) H → SqL K H a (ns.map V.int) → spF K 1 fn [.ref a] H (fun v _ => v = .bl true) E0) :
    codeAny (model P w) callerA (.call (.ref g) ⟨[.ref a], []⟩) (Ended s.heap s.os) s := by
  let o : Obj := { cls := .type "list", data := .seq us.toArray }
  let H : Hp := hpT K a o (ns.map V.int)
  have vals : Vals (ns.map V.int) us := vals_ints whole
  have size : (ns.map V.int).length ≤ sizeLine := by rw [List.length_map]; exact Nat.le_trans short (by decide)
  have emp : ∀ {b : Addr}, isT K b → s.heap.get? b = some { cls := .none, data := .fields #[] } := fun ⟨x, hx, c, q⟩ => (tabs.hd x hx c _ q).2.2
  have noK : ∀ {b : Addr}, isT K b → K.lookup b = none := fun ⟨x, hx, c, q⟩ => (tabs.hd x hx c _ q).2.1
  have aT : ¬ isT K a := fun z => by
    have q := emp z
    rw [obj] at q
    have z' : Data.seq us.toArray _ = Data.fields #[] := congrArg Obj.data (Option.some.inj q)
    cases z'
  -- what is not the script nor a table stands in the base, too
  have stays : ∀ {b : Addr} {z : Obj}, s.heap.get? b = some z → ¬ isT K b → (b = a → K.lookup a ≠ none) → (hidT s.heap H).get? b = some z := fun e t h => hidT_get e (hpT_out t h)
  have noT : ∀ {b : Addr} {z : Obj}, s.heap.get? b = some z → z.data ≠ .fields #[] → ¬ isT K b := fun e h t => by
    rw [emp t] at e; cases e; exact h rfl
  have spaces : ∀ {b : Addr} {m : Str → Option Value}, s.heap.Ns b m → (hidT s.heap H).Ns b m := by
    rintro b m ⟨z, es, ep, e, dz, rest⟩
    refine ⟨z, es, ep, stays e (noT e (by rw [dz]; exact fun z => nomatch z)) fun eb => ?_, dz, rest⟩
    rw [eb, obj] at e
    cases e
    cases dz
  have kinB : K.In (hidT s.heap H) := fun b z lk => stays (kin b z lk) (fun t => by rw [noK t] at lk; cases lk) fun eb q => by rw [eb, q] at lk; cases lk
  have limB : (hidT s.heap H).NoLimit := by
    obtain ⟨mc, n1, n2⟩ := lim
    exact ⟨mc, spaces n1, n2⟩
  have tracked : HOk P w H s.heap := fun b u e => by
    rcases hpT_some e with ⟨t, rfl⟩ | ⟨_, rfl, _, rfl⟩
    · exact emp t
    · exact ⟨obj, size, us, _, vals, obj⟩
  have TB : ∀ x ∈ lamNames, ∀ c P, PySem.W.tabIn K x = some (c, P) → LamX.TabB (hidT s.heap H) mg c P := fun x hx c P q => by
    obtain ⟨t1, t2, t3⟩ := tabs.hd x hx c P q
    refine ⟨PySem.W.codeHd_of_K kinB t1, ?_, fun z => ?_⟩
    · obtain ⟨bm, ob, b1, b2, b3, b4, b5, b6⟩ := hbm
      have nG : bm ≠ mainGlobals := fun q => by
        obtain ⟨o, es, ep, e, hd, _⟩ := nsM
        rw [q, e] at b3
        cases b3
        rw [hd] at b6
        cases b6
      have nP : bm ≠ P := fun q => by
        rw [q, t3] at b3
        cases b3
        cases b6
      refine ⟨bm, ob, b1, b2, nG, nP, stays b3 (noT b3 (by rw [b6]; exact fun z => nomatch z)) (fun eb => ?_), b4, b5, b6⟩
      rw [eb, obj] at b3
      cases b3
      cases b6
    · obtain ⟨o, es, ep, e, hd, _⟩ := nsM
      rw [z, t3] at e
      cases e
      cases hd
  have world : Env0 P w K mg (hidT s.heap H) callerA [] s H := {
    frames := rfl
    mod := ⟨kinB, spaces nsM, ⟨mb, spaces nsB, boot⟩, limB⟩
    bs := fun _ _ e => of_hidT e
    bsz := Nat.le_of_eq (hidT_size _ _)
    funs := trivial
    frf := fun _ hb => nomatch hb
    hok := tracked
    bare := .of_eq gens }
  have script : SqL K H a (ns.map V.int) := by
    cases q : K.lookup a with
    | none => exact .inl (.inr ⟨o, (hpT_ne aT).trans (hpScript_at q)⟩)
    | some z =>
      have e := kin a z q
      rw [obj] at e
      cases e
      exact .inr ⟨_, us.toArray, _, q, rfl, rfl, rfl, by rw [List.size_toArray, ← vals.length]; exact size, by simpa using vals⟩
  have ran := (good _ kinB (spaces nsM) TB).runs (us := [.ref a]) (vs := [.ref a]) (Q := fun v _ => v = .bl true) (E := E0) rfl room world (binds s (.ref a)) (.cons rfl .nil) (promise H hpT_tabs script)
  refine codeAny_mono ran fun r t q => ?_
  match r with
  | .error e => exact False.elim q
  | .ok .next => exact False.elim q
  | .ok .brk => exact False.elim q
  | .ok .cont => exact False.elim q
  | .ok (.ret u) =>
    obtain ⟨v, H2, sameOs, bare, un, hok2, rel, is⟩ := q
    have is : v = .bl true := is
    rw [is] at rel
    have eu : u = .bool true := rel
    rw [eu]
    have key : ∀ b z, ¬ isT K b → s.heap.get? b = some z → t.heap.get? b = some z := fun b z nb e => by
      cases qb : H b with
      | none => exact un.keep b z e qb (by simp [frs]) (by simp)
      | some y =>
        rcases hpT_some qb with ⟨t', _⟩ | ⟨_, _, _, rfl⟩
        · exact absurd t' nb
        · have before := (tracked b _ qb).1
          have after := (hok2 b _ (un.frzs b _ _ qb)).1
          rw [e] at before
          cases before
          exact after
    have grown : ∀ b, isT K b → ∃ more : Array Value, t.heap.get? b = some { cls := .none, data := .fields more } := fun b hb => by
      obtain ⟨more, z⟩ := un.tbls b #[] (hpT_tab hb)
      exact ⟨_, hok2 b _ z⟩
    refine ⟨rfl, ⟨fun b z e => ?_, fun b z e => ?_⟩, sameOs, bare⟩
    · by_cases hb : isT K b
      · obtain ⟨more, hm⟩ := grown b hb
        obtain ⟨x, hx, c, q⟩ := hb
        obtain ⟨t1, t2, t3⟩ := tabs.hd x hx c b q
        rw [t3] at e
        cases e
        exact .inr (.inl ⟨((PySem.W.codeHd_of_K kin t1).tab t3).isCodeTable, rfl, #[], more, rfl, by rw [Array.empty_append]; exact hm⟩)
      · exact .inl (key b z hb e)
    · by_cases hb : isT K b
      · obtain ⟨more, hm⟩ := grown b hb
        exact ⟨_, hm⟩
      · exact ⟨z, key b z hb e⟩
/-- the head's end, for a law whose def is a shallow function -/
theorem walk_law {l : PySem.W.OpenLaw} {k : Nat} {q : Program} {loose : List Str} {XP : (Str → Option Value) → Heap → Prop} {YP : World → Heap → Prop} {d : DefRec} {x : Str} {fn : Fn}
    (most : l.most = some 63) (plain : d.params.defaults = []) (room : Room k callerA) (sum : ∀ ns : List Int, ns.length ≤ 63 → ∃ t st, fn [.lst (ns.map D.int)] [] = .ok t st ∧ t.1 = .bl true ∧ t.2 = false)
    (find : ∀ (w : World) (mg : Str → Option Value) (g : Addr) (h : Heap), YP w h → h.Ns mainGlobals mg → mg d.name = some (.ref g) →
      ∃ (K : PySem.W.Frag) (fd : FuncData), K.In h ∧ TabF K h ∧ (∀ (t : Shared) (u : Value), BindsTo t fd ⟨[u], []⟩ [(x, u)]) ∧ ∀ base : Heap, K.In base → base.Ns mainGlobals mg → (∀ x ∈ lamNames, ∀ c P, PySem.W.tabIn K x = some (c, P) → LamX.TabB base mg c P) → FnOkG l.prog w K mg base CX0 k g fd [x] (spF K 1 fn)) :
    PySem.W.WalkO q loose XP YP l.row.toRowW d [] fun f vs => PySem.call f vs :=
  Att.attach_call most plain fun w _ s mg _ g _ _ _ _ a us ns G Y _ _ _ at_ obj whole short gens => by
    obtain ⟨K, fd, kin, tabs, binds, good⟩ := find w mg g s.heap Y G.T.g at_
    exact law_run kin G.T.g G.T.b G.T.builtins G.T.nolimit gens tabs G.T.bmain obj whole short room good binds fun H hT sq => law_sp sum H a ns short hT sq

abbrev AlT : Type := Bool × He.AlD
def obsTG (n : Nat) (fx : PySem.W.Frag → Bool) (fa : List He.Fa) (fn : List He.DefD) (g : Addr → Option Obj) : AlT := (fx (He.frT g (He.asD g n)) && tabChk g (He.frT g (He.asD g n)), He.obsD fa fn (He.frT g (He.asD g n)))
def valT (fn : List He.DefD) : AlT := (true, He.valD fn)
structure SaysT (fx : PySem.W.Frag → Bool) (fa : List He.Fa) (fn : List He.DefD) (K : PySem.W.Frag) (h : Heap) : Prop where
  d : He.SaysD fa fn K
  x : fx K = true
  tab : TabF K h
theorem TabF.keeps {K : PySem.W.Frag} {h h' : Heap} (t : TabF K h) (k : ∀ a o, h.get? a = some o → h'.get? a = some o) : TabF K h' := ⟨fun x hx c P q => let ⟨a, b, e⟩ := t.hd x hx c P q; ⟨a, b, k _ _ e⟩, t.inj⟩
theorem saysT_of {n : Nat} {fx : PySem.W.Frag → Bool} {fa : List He.Fa} {fn : List He.DefD} {h : Heap} (e : obsTG n fx fa fn h.get? = valT fn) : SaysT fx fa fn (He.frT h.get? (He.asD h.get? n)) h := by
  have e1 : He.obsD fa fn (He.frT h.get? (He.asD h.get? n)) = He.valD fn := congrArg (fun z : AlT => z.2) e
  have e2 : (fx (He.frT h.get? (He.asD h.get? n)) && tabChk h.get? (He.frT h.get? (He.asD h.get? n))) = true := congrArg (fun z : AlT => z.1) e
  obtain ⟨h1, h2⟩ := Bool.and_eq_true_iff.mp e2
  exact ⟨e1, h1, tabF_of h2 h rfl⟩
def hookT (n : Nat) (fx : PySem.W.Frag → Bool) (fa : List He.Fa) (fn : List He.DefD) : PySem.W.Hook where
  α := AlT
  obs := fun s => obsTG n fx fa fn s.heap.get?
  val := fun _ => valT fn
  says := fun _ h => ∃ K : PySem.W.Frag, K.In h ∧ SaysT fx fa fn K h
  of := fun _ _ e => ⟨_, He.frT_in, saysT_of e⟩
  keeps := fun _ _ _ ⟨K, hK, c⟩ k => ⟨K, PySem.W.Frag.In.keeps hK k, ⟨c.d, c.x, c.tab.keeps k⟩⟩
theorem obsTG_eq {n : Nat} {fx : PySem.W.Frag → Bool} {fa : List He.Fa} {fn : List He.DefD} {g : Addr → Option Obj} {s : Shared} (h : ∀ a, g a = s.heap.get? a) : obsTG n fx fa fn g = (hookT n fx fa fn).obs s := by
  have e : g = s.heap.get? := funext h
  rw [e] <;> rfl
end L2.Pd
set_option maxHeartbeats 4000000
namespace L2.Pd
open PySem PySem.Spec PyProof.Rows
/-- whence a parameter has its value: a written place, a default, a keyword -/
inductive Sel where
  | at_ (i : Nat) | df (i : Nat) | kw (i : Nat)
def Sel.get {α : Type} (z : α) (us its ws : List α) : Sel → α
  | .at_ i => us.getD i z
  | .df i => its.getD i z
  | .kw i => ws.getD i z
def pickS {α : Type} (z : α) (us its ws : List α) (sl : List Sel) : List α := sl.map (Sel.get z us its ws)
def Sel.ok (n m k : Nat) : Sel → Bool
  | .at_ i => decide (i < n)
  | .df i => decide (i < m)
  | .kw i => decide (i < k)
section
variable {K : PySem.W.Frag} {bx : Bxs} {W : Wd} {H : Hp}
theorem Vals.getD' : ∀ {vs : List V} {us : List Value} (i : Nat), Vals vs us → i < vs.length → RelV (vs.getD i .non) (us.getD i .none)
  | [], _, _, _, hi => absurd hi (Nat.not_lt_zero _)
  | _ :: _, _ :: _, 0, .cons h _, _ => h
  | _ :: _, _ :: _, i + 1, .cons _ h, hi => Vals.getD' i h (Nat.lt_of_succ_lt_succ hi)
theorem RepL.getD' {ds : List D} {vs : List V} (h : RepL K bx W H ds vs) {i : Nat} (hi : i < ds.length) : Rep K bx W H (ds.getD i .non) (vs.getD i .non) := by
  obtain ⟨v, e, q⟩ := h.get (List.getElem?_eq_getElem hi)
  rw [List.getD_eq_getElem?_getD, List.getD_eq_getElem?_getD, e, List.getElem?_eq_getElem hi]
  exact q
theorem Vals.pick {vs ds zs : List V} {us its ws : List Value} (h1 : Vals vs us) (h2 : Vals ds its) (h3 : Vals zs ws) : ∀ (sl : List Sel), sl.all (Sel.ok vs.length ds.length zs.length) = true → Vals (pickS .non vs ds zs sl) (pickS .none us its ws sl)
  | [], _ => .nil
  | x :: sl, h => by
    have h' := Bool.and_eq_true_iff.mp (show (Sel.ok vs.length ds.length zs.length x && sl.all (Sel.ok vs.length ds.length zs.length)) = true from h)
    refine .cons ?_ (Vals.pick h1 h2 h3 sl h'.2)
    cases x with
    | at_ i => exact Vals.getD' i h1 (of_decide_eq_true h'.1)
    | df i => exact Vals.getD' i h2 (of_decide_eq_true h'.1)
    | kw i => exact Vals.getD' i h3 (of_decide_eq_true h'.1)
theorem RepL.pick {d1 d2 d3 : List D} {v1 v2 v3 : List V} (h1 : RepL K bx W H d1 v1) (h2 : RepL K bx W H d2 v2) (h3 : RepL K bx W H d3 v3) : ∀ (sl : List Sel), sl.all (Sel.ok d1.length d2.length d3.length) = true → RepL K bx W H (pickS .non d1 d2 d3 sl) (pickS .non v1 v2 v3 sl)
  | [], _ => .nil
  | x :: sl, h => by
    have h' := Bool.and_eq_true_iff.mp (show (Sel.ok d1.length d2.length d3.length x && sl.all (Sel.ok d1.length d2.length d3.length)) = true from h)
    refine .cons ?_ (RepL.pick h1 h2 h3 sl h'.2)
    cases x with
    | at_ i => exact RepL.getD' h1 (of_decide_eq_true h'.1)
    | df i => exact RepL.getD' h2 (of_decide_eq_true h'.1)
    | kw i => exact RepL.getD' h3 (of_decide_eq_true h'.1)
end
/-- n written values, the names ks by keyword: what is bound -/
structure KB (K : PySem.W.Frag) (fd : FuncData) (ps : List Str) (n : Nat) (ks : List Str) (sl : List Sel) (its : List Value) : Prop where
  to : ∀ (s : Shared) (us ws : List Value), K.In s.heap → us.length = n → ws.length = ks.length → BindsTo s fd ⟨us, ks.zip ws⟩ (ps.zip (pickS .none us its ws sl))
section
variable {K : PySem.W.Frag} {x qual : Str} {params : Arguments} {body : List Stmt} {scope : Scope} {dvs : List V} {kws : List (Str × V)} {f : Addr} {fd : FuncData} {ps : List Str}
/-- a def of no defaults -/
theorem kb_none (F : FunD K x qual params body scope [] kws f fd) (n : Nat) (ks : List Str) (sl : List Sel)
    (h : ∀ (kV doc pm : Value) (an : Option Addr) (cdv ct : Value) (us ws : List Value), us.length = n → ws.length = ks.length → bindArgs (PySem.W.fnOf x qual params body scope .none kV doc pm an cdv ct) ⟨us, ks.zip ws⟩ = pure (ps.zip (pickS .none us [] ws sl))) : ∃ its, Vals [] its ∧ KB K fd ps n ks sl its := by
  obtain ⟨_, _, dV, _, _, _, _, _, _, _, rfl, _, _, none_, _⟩ := F.ex
  have eV : dV = .none := none_.elim (fun z => z.2) fun z => absurd rfl z.1
  subst eV
  exact ⟨[], .nil, ⟨fun _ us ws _ p q => BindsTo.of_eq (h _ _ _ _ _ _ us ws p q)⟩⟩
/-- a def with defaults -/
theorem kb_some (F : FunD K x qual params body scope dvs kws f fd) (n : Nat) (ks : List Str) (sl : List Sel) (some_ : dvs ≠ [])
    (h : ∀ (D : Addr) (kV doc pm : Value) (an : Option Addr) (cdv ct : Value) (us ds ws : List Value), us.length = n → ds.length = dvs.length → ws.length = ks.length →
      ∃ k, bindArgs (PySem.W.fnOf x qual params body scope (.ref D) kV doc pm an cdv ct) ⟨us, ks.zip ws⟩ = seqItems? (.ref D) >>= k ∧ k (some ds.toArray) = pure (ps.zip (pickS .none us ds ws sl))) : ∃ its, Vals dvs its ∧ KB K fd ps n ks sl its := by
  obtain ⟨_, _, _, _, _, _, _, _, _, _, rfl, _, _, given, _⟩ := F.ex
  obtain ⟨_, D, _, ds, _, rfl, look, items, vals⟩ := given.resolve_left fun z => some_ z.1
  refine ⟨ds, vals, ⟨fun s us ws kin p q => BindsTo.of_looks fun M => ?_⟩⟩
  obtain ⟨rest, e, e'⟩ := h D _ _ _ _ _ _ us ds ws p vals.length.symm q
  exact e ▸ looks_items kin look items (.of_pure e')
end
/-- such a call: n written ones, ks the keywords, dd the defaults, sl who fills which parameter -/
structure DefK (P : Program) (w : World) (K : PySem.W.Frag) (mg : Str → Option Value) (base : Heap) (x : Str) (k n : Nat) (fn : Fn) (n1 : Nat) (ks : List Str) (dd : List D) (sl : List Sel) : Prop where
  ex : ∃ (f : Addr) (fd : FuncData) (ps : List Str) (its : List Value) (dvs : List V), FnOkG P w K mg base CX0 k f fd ps (spF K n fn) ∧ mg x = some (.ref f) ∧ PySem.W.keepIn K (.ref f) = true ∧ KB K fd ps n1 ks sl its ∧ Vals dvs its ∧ (∀ bx W H, RepL K bx W H dd dvs) ∧ ps.length = n
  ok : sl.all (Sel.ok n1 dd.length ks.length) = true
  len : sl.length = n
def callK (fn : Fn) (n1 n2 : Nat) (dd : List D) (sl : List Sel) (ma mk : M (List D)) : M DB := do
  let ds ← ma
  let es ← mk
  if ds.length = n1 ∧ es.length = n2 then runF fn (pickS .non ds dd es sl) else lift none
/-- keyword values -/
def SK (X : Cx) (kws : List Keyword) (m : M (List D)) : Prop := PK X kws (rdA X.K m)
section
variable {X : Cx} {a e : Expr} {kws : List Keyword} {ma : M DB} {mr mk : M (List D)} {nm : Option Str} {kpos : Pos}
theorem PK.weak {t t' : TA} (h : PK X kws t) (w : ∀ σ H Q, t' σ H Q → t σ H Q) : PK X kws t' := ⟨fun pos pins s σ H Q I q => h.run pos pins s σ H Q I (w _ _ _ q)⟩
theorem sk_nil : SK X [] nilA := PK.weak pk_nil fun σ H Q h => by
  obtain ⟨F, T, bx, s, r, ds, s', e, k⟩ := h
  cases e
  exact k [] bx H (Stp.refl r) .nil
theorem sk_cons (ha : SE X a ma) (hr : SK X kws mr) : SK X (⟨nm, a, kpos⟩ :: kws) (consA ma mr) := PK.weak (pk_cons ha.d hr) fun σ H Q h => by
  obtain ⟨F, T, bx, s, r, t, s', e, k⟩ := h
  obtain ⟨x, s1, e1, e⟩ := bind_ok e
  obtain ⟨xs, s2, e2, e⟩ := bind_ok e
  cases e
  exact ⟨F, T, bx, s, r, x.1, s1, by rw [bind_run, e1]; rfl, fun v bx1 H1 x1 q1 => ⟨F, T, bx1, s1, x1.rel, xs, _, e2, fun vs bx2 H2 x2 q2 => k _ bx2 H2 (x1.trans x2) (.cons (x2.tr _ _ q1) q2)⟩⟩
end
section
variable {X : Cx} {x : Str} {k n n1 : Nat} {fn : Fn} {dd : List D} {ks : List Str} {sl : List Sel} {e : Expr} {es : List Expr} {kws : List Keyword} {ma mk : M (List D)} {p pos : Pos}
theorem run_fnK {f : Addr} {fd : FuncData} {ps : List Str} {sp : Sp} {its : List Value} {dvs : List V} {pins : List (Addr × Obj)} {σ : St} {H : Hp} {s : Shared} {Q : VK} {us ws : List Value} {vs zs : List V} (F : FnOkG X.prog X.w X.K X.mg X.base CX0 k f fd ps sp) (hgd : X.A.guards = some []) (hr : Room k X.A) (hb : KB X.K fd ps n1 ks sl its) (hd : Vals dvs its)
    (I : Inv X pins σ H s) (r : Vals vs us) (rz : Vals zs ws) (l1 : vs.length = n1) (l2 : zs.length = ks.length) (hsl : sl.all (Sel.ok n1 dvs.length ks.length) = true) (h : sp (pickS .non vs dvs zs sl) H Q E0) : wpAny (model X.prog X.w) X.A (call (.ref f) us (ks.zip ws)) (EP X pins σ Q) X.xe s := by
  exact called F hgd hr I (hb.to s us ws I.kIn (r.length.symm.trans l1) (rz.length.symm.trans l2)) (Vals.pick r hd rz sl (by rw [l1, l2]; exact hsl)) h
/-- behind the arguments -/
theorem rdK {K : PySem.W.Frag} {σ : St} {H : Hp} {Q : VK} {dvs : List V} (hd : ∀ bx W H, RepL K bx W H dd dvs) (hl : sl.length = n) (hsl : sl.all (Sel.ok n1 dd.length ks.length) = true) (h : rdT K (callK fn n1 ks.length dd sl ma mk) σ H Q) :
    rdA K ma σ H fun vs H1 => rdA K mk σ H1 fun zs H2 => vs.length = n1 ∧ zs.length = ks.length ∧ spF K n fn (pickS .non vs dvs zs sl) H2 Q E0 := by
  obtain ⟨F, T, bx, s, r, t, s', e, k⟩ := h
  obtain ⟨ds, s1, e1, e⟩ := bind_ok e
  obtain ⟨es, s2, e2, e⟩ := bind_ok e
  split at e
  · rename_i c
    refine ⟨F, T, bx, s, r, ds, s1, e1, fun vs bx1 H1 x1 q1 => ⟨F, T, bx1, s1, x1.rel, es, s2, e2, fun zs bx2 H2 x2 q2 => ?_⟩⟩
    have q1' := x2.trL _ _ q1
    refine ⟨by rw [← q1'.length]; exact c.1, by rw [← q2.length]; exact c.2, ?_⟩
    have q3 : RepL K bx2 (Wf F s2 σ T) H2 (pickS .non ds dd es sl) (pickS .non vs dvs zs sl) := RepL.pick q1' (hd bx2 _ H2) q2 sl (by rw [c.1, c.2]; exact hsl)
    have ef : runF fn (pickS .non ds dd es sl) s2 = .ok t s' := e
    unfold runF at ef
    cases q : fn (pickS .non ds dd es sl) s2.st with
    | ok t' st' =>
      rw [q] at ef
      cases ef
      have x12 := x1.trans x2
      refine ⟨by unfold pickS; rw [List.length_map]; exact hl, bx2, Wf F s2 σ T, _, s2.st, q3, x12.rel.box, fun a ha => ?_, fun a => x12.rel.wSome, _, st', q, fun v bx3 H3 y => ?_⟩
      · intro z
        rcases z with z | ⟨i, d, z1, z2⟩ | z
        · exact x12.rel.wb a ha z
        · obtain ⟨b, _, _, _, _, p1, _, _, _, _, p2, _⟩ := x12.rel.ow i d z1
          rw [z2] at p1; cases p1
          exact p2 ha
        · exact (x12.rel.tmp a z).2.1 ha
      · obtain ⟨x3, q4⟩ := x12.rel.call y
        exact k v bx3 H3 (x12.trans x3) q4
    | ex _ _ => rw [q] at ef; cases ef
    | no => rw [q] at ef; cases ef
  · cases e
theorem RepL.length_dd {K : PySem.W.Frag} {dvs : List V} (hd : ∀ bx W H, RepL K bx W H dd dvs) : dd.length = dvs.length := (hd [] (fun _ => False) (fun _ => none)).length
theorem se_callK (G : DefK X.prog X.w X.K X.mg X.base x k n fn n1 ks dd sl) (hgd : X.A.guards = some []) (hr : Room k X.A) (hg : Gl X x) (ha : SA X (e :: es) ma) (hkw : SK X kws mk) (hall : (backToKw pos (keywordEach kws X.env)).all (·.1.isSome) = true := by rfl) (hks : (backToKw pos (keywordEach kws X.env)).filterMap (·.1) = ks := by rfl)
    (hdb : (x == ("__debug__" : Str)) = false := by decide) (he : starEach (e :: es) X.env = (false, eval e X.env) :: starEach es X.env := by rfl)
    (hpl : ((backTo pos (starEach (e :: es) X.env)).any (·.1) || (backToKw pos (keywordEach kws X.env)).any (·.1.isNone)) = false := by rfl) : SE X (.Call (.Name x p) (e :: es) kws pos) (callK fn n1 ks.length dd sl ma mk) := by
  obtain ⟨f, fd, ps, its, dvs, F, hm, hk, hb, hd, hdd, _⟩ := G.ex
  refine ⟨fun pins s σ H Q I h => ?_⟩
  have h2 := rdK (ks := ks) hdd G.len G.ok h
  refine wpAny_Call_Name_kw (ld_glob I hg hm ?_ hdb)
  refine PySem.W.callWith_KW (h₀ := X.base) I.ok.mod.kin hk hall (thn (ha.run pos pins s σ H _ I h2) fun us s1 ⟨vs, H1, I1, r, q⟩ => ?_) hpl he
  refine thn (hkw.run pos pins s1 σ H1 _ I1 q) fun ws s2 ⟨zs, H2, I2, rz, l1, l2, q2⟩ => ⟨I2.kIn, ?_⟩
  rw [hks]
  exact run_fnK F hgd hr hb hd I2 r rz l1 l2 (by rw [← RepL.length_dd hdd]; exact G.ok) q2
theorem se_callK0 (G : DefK X.prog X.w X.K X.mg X.base x k n fn 0 ks dd sl) (hgd : X.A.guards = some []) (hr : Room k X.A) (hg : Gl X x) (hkw : SK X kws mk) (hall : (backToKw pos (keywordEach kws X.env)).all (·.1.isSome) = true := by rfl) (hks : (backToKw pos (keywordEach kws X.env)).filterMap (·.1) = ks := by rfl)
    (hdb : (x == ("__debug__" : Str)) = false := by decide)
    (hpl : ((backTo pos (starEach [] X.env)).any (·.1) || (backToKw pos (keywordEach kws X.env)).any (·.1.isNone)) = false := by rfl) : SE X (.Call (.Name x p) [] kws pos) (callK fn 0 ks.length dd sl nilA mk) := by
  obtain ⟨f, fd, ps, its, dvs, F, hm, hk, hb, hd, hdd, _⟩ := G.ex
  refine ⟨fun pins s σ H Q I h => ?_⟩
  have h2 := rdK (ks := ks) hdd G.len G.ok h
  obtain ⟨F', T, bx, s', r', ds', s'', e, kk⟩ := h2
  cases e
  have h3 := kk [] bx H (Stp.refl r') .nil
  refine wpAny_Call_Name_kw (ld_glob I hg hm ?_ hdb)
  refine PySem.W.callWith_KW0 (h₀ := X.base) I.ok.mod.kin hk hall ?_ hpl
  refine thn (hkw.run pos pins s σ H _ I h3) fun ws s2 ⟨zs, H2, I2, rz, l1, l2, q2⟩ => ⟨I2.kIn, ?_⟩
  rw [hks]
  exact run_fnK (us := []) F hgd hr hb hd I2 .nil rz l1 l2 (by rw [← RepL.length_dd hdd]; exact G.ok) q2
end
end L2.Pd
set_option maxHeartbeats 4000000
namespace L2.Pd
open PySem PySem.Spec PyProof.Rows
def peek (i : Nat) : M D := fun s => match s.env[i]? with
  | some (some (d, _)) => .ok d s
  | _ => .no
/-- x[e] -/
def ixP (i : Nat) (mb : M DB) : M DB := do
  let _ ← peek i
  let y ← mb
  let d ← peek i
  lift (idxD [d, y.1])
/-- len(x) -/
def lenP (i : Nat) : M DB := do
  let d ← peek i
  lift (lenD [d])
/-- x[e:e'] -/
def slP (i : Nat) (lo hi : M (Option Int)) : M DB := do
  let _ ← peek i
  let l ← lo
  let u ← hi
  let d ← peek i
  lift (slD d l u)
/-- a datum, or an owned list -/
def RepO (K : PySem.W.Frag) (bx : Bxs) (W : Wd) (H : Hp) (d : D) (v : V) : Prop := Rep K bx W H d v ∨ ∃ (a : Addr) (xs : List V) (ds : List D) (o : HO), Hld d ds xs o ∧ v = .ref a ∧ H a = some o ∧ RepL K bx W H ds xs
section
variable {K : PySem.W.Frag} {F : Fm} {T : List Addr} {bx : Bxs} {s s' : S} {σ : St} {H : Hp} {W : Wd} {i : Nat} {d : D}
theorem peek_ok (h : peek i s = .ok d s') : s' = s ∧ ∃ b, s.env[i]? = some (some (d, b)) := by
  unfold peek at h
  split at h
  · cases h; exact ⟨rfl, _, by assumption⟩
  · cases h
theorem Rel.peek (r : Rel K F bx T s σ H) {b : Bool} (e : s.env[i]? = some (some (d, b))) : ∃ v, σ[i]? = some (some v) ∧ RepO K bx (Wf F s σ T) H d v := by
  cases b with
  | false =>
    obtain ⟨v, e1, h⟩ := r.sh i d e
    exact ⟨v, e1, .inl h⟩
  | true =>
    obtain ⟨a, xs, ds, o, e1, e2, e3, h, _⟩ := r.ow i d e
    exact ⟨_, e2, .inr ⟨a, xs, ds, o, e1, rfl, e3, h⟩⟩
theorem RepO.lst {ds : List D} {v : V} (h : RepO K bx W H (.lst ds) v) : ∃ a vs, v = .ref a ∧ SqL K H a vs ∧ RepL K bx W H ds vs := by
  rcases h with h | ⟨a, xs, es, o, e1, e2, e3, h⟩
  · exact h.lst
  · rcases e1 with ⟨e1, rfl⟩ | ⟨_, e1, _⟩ <;> cases e1
    exact ⟨a, xs, e2, .inl (.inl e3), h⟩
theorem RepO.old {v : V} (h : RepO K bx W H d v) (hn : ∀ ds, d ≠ .lst ds) (hn2 : ∀ ks ds, d ≠ .dct ks ds := by intro _ _ z; cases z) : Rep K bx W H d v := by
  rcases h with h | ⟨a, xs, es, o, ⟨e1, _⟩ | ⟨ks, e1, _⟩, _⟩
  · exact h
  · exact absurd e1 (hn es)
  · exact absurd e1 (hn2 ks es)
/-- what a dict looks like, owned or shared -/
theorem RepO.dct {ks : List L2.Key} {ds : List D} {v : V} (h : RepO K bx W H (.dct ks ds) v) : ∃ a vs, v = .ref a ∧ ks.length = ds.length ∧ Rd H a (.dK (ks.zip vs)) ∧ RepL K bx W H ds vs := by
  rcases h with h | ⟨a, xs, es, o, e1, e2, e3, h⟩
  · unfold Rep at h
    obtain ⟨a, xs, e, hl, h1, _, _, h2⟩ := h
    exact ⟨a, xs, e, hl, h1, h2⟩
  · rcases e1 with ⟨e1, rfl⟩ | ⟨_, e1, hl, rfl⟩ <;> cases e1
    exact ⟨a, xs, e2, hl, .inl e3, h⟩
end
/-- one of its own kind in front -/
def PuO (K : PySem.W.Frag) (f : D → Option DB) (x : V) (H : Hp) (Q : VK) : Prop :=
  ∃ (bx : Bxs) (W : Wd) (d : D) (t : DB), RepO K bx W H d x ∧ f d = some t ∧ ∀ v H', Grow H H' → ResN K bx W H H' t v → Q v H'
section
variable {X : Cx} {a b : Expr} {mb : M DB} {i : Nat} {x : Str} {p pos p2 : Pos} {lo hi : Option Expr} {ml mh : M (Option Int)}
theorem ix_DO : IxR X (fun x y H Q => ∃ e, (∀ bx W, RepL X.K bx W H [e] [y] ∨ True) ∧ PuO X.K (fun d => idxD [d, e]) x H Q ∧ (∃ i, e = .int i ∧ y = .int i)) := by
  intro ev es pins s σ H x y v u Q I rx ry h hsub
  obtain ⟨_, _, ⟨bx, W, d, t, r, e, k⟩, i, rfl, rfl⟩ := h
  have e : idxD [d, .int i] = some t := e
  unfold idxD at e
  split at e
  · rename_i xs j q
    cases q
    obtain ⟨d, e1, rfl⟩ := Option.map_eq_some_iff.mp e
    obtain ⟨a, vs, rfl, q1, q2⟩ := r.lst
    obtain ⟨w, e2, q3⟩ := q2.atI e1
    exact ix_list ev es pins s σ H _ _ v u Q I rx ry ⟨a, vs, _, w, rfl, rfl, q1, e2, k _ H Grow.refl (ResN.old q3)⟩ hsub
  · rename_i xs j q
    cases q
    obtain ⟨d, e1, rfl⟩ := Option.map_eq_some_iff.mp e
    obtain ⟨a, vs, rfl, q1, q2⟩ := (r.old (by intro _ z; cases z)).tup
    obtain ⟨w, e2, q3⟩ := q2.atI e1
    exact ix_tup ev es pins s σ H _ _ v u Q I rx ry ⟨a, vs, _, w, rfl, rfl, q1, e2, k _ H Grow.refl (ResN.old q3)⟩ hsub
  · rename_i z j q
    cases q
    split at e
    · rename_i c
      obtain ⟨d, e1, rfl⟩ := Option.map_eq_some_iff.mp e
      exact ix_str ev es pins s σ H _ _ v u Q I rx ry ⟨z, _, d, (r.old (by intro _ z; cases z)).str, rfl, c, e1, k _ H Grow.refl (ResN.old Rep.mstr)⟩ hsub
    · cases e
  · cases e
theorem se_ixP (i : Nat) (hb : SE X b mb) (hN : X.N[i]? = some x := by rfl) (hv : Vis X.env.scope x := by first | exact Or.inl rfl | exact Or.inr (Or.inl rfl) | exact Or.inr (Or.inr rfl)) (hd : (x == ("__debug__" : Str)) = false := by decide)
    (hcd : (x == ("__classdict__" : Str)) = false := by decide) (hs : PlainIx b := by exact fun _ _ => rfl) : SE X (.Subscript (.Name x p) b pos) (ixP i mb) :=
  PE.weak (pe_ix ix_DO (pe_var hN hv hd hcd) hb.d hs) fun σ H Q h => by
    obtain ⟨F, T, bx, s, r, t, s', e, k⟩ := h
    obtain ⟨d0, s1, e1, f1⟩ := bind_ok e
    obtain ⟨rfl, b0, h0⟩ := peek_ok e1
    obtain ⟨y, s2, e2, f2⟩ := bind_ok f1
    obtain ⟨d, s3, e3, f3⟩ := bind_ok f2
    obtain ⟨rfl, b1, h1⟩ := peek_ok e3
    obtain ⟨e4, rfl⟩ := lift_ok f3
    obtain ⟨v, hσ, _⟩ := r.peek h0
    refine ⟨v, hσ, F, T, bx, s1, r, y.1, s', by rw [bind_run, e2]; rfl, fun w bx1 H1 x1 q1 => ?_⟩
    obtain ⟨v', hσ', hO⟩ := x1.rel.peek h1
    rw [hσ] at hσ'; cases hσ'
    have hi : ∃ j, y.1 = .int j := by
      clear q1 f2 f3 e2
      revert e4
      generalize y.1 = yy
      intro e4
      unfold idxD at e4
      split at e4
      · rename_i q; cases q; exact ⟨_, rfl⟩
      · rename_i q; cases q; exact ⟨_, rfl⟩
      · rename_i q; cases q; exact ⟨_, rfl⟩
      · cases e4
    obtain ⟨j, hj⟩ := hi
    rw [hj] at q1 e4
    refine ⟨.int j, fun _ _ => .inr trivial, ⟨bx1, _, d, t, hO, e4, fun v2 H2 g q => ?_⟩, j, rfl, q1.int⟩
    obtain ⟨y2, z⟩ := ResN.res x1.rel g q
    exact k v2 bx1 H2 (x1.trans y2) z
theorem call_lenDO : CallR X (.builtin "len") (fun vs H Q => ∃ x, vs = [x] ∧ PuO X.K (fun d => lenD [d]) x H Q) := by
  intro pins s σ H xs us Q I r h
  obtain ⟨x, rfl, bx, W, d, t, q, e, k⟩ := h
  have e : lenD [d] = some t := e
  unfold lenD at e
  split at e
  · rename_i z
    cases z
    cases e
    obtain ⟨a, xs, rfl, q1, q2⟩ := q.lst
    exact call_len pins s σ H _ us Q I r ⟨_, _, rfl, .inl ⟨xs, q1, rfl⟩, k _ H Grow.refl (ResN.old (by rw [q2.length]; exact Rep.mint))⟩
  · rename_i z
    cases z
    cases e
    obtain ⟨a, xs, rfl, q1, q2⟩ := (q.old (by intro _ z; cases z)).tup
    exact call_len pins s σ H _ us Q I r ⟨_, _, rfl, .inr ⟨xs, q1, rfl⟩, k _ H Grow.refl (ResN.old (by rw [q2.length]; exact Rep.mint))⟩
  · rename_i z
    cases z
    have e : (if _ then _ else _) = some t := e
    split at e
    · rename_i c
      cases e
      rw [(q.old (by intro _ z; cases z)).str] at r
      exact call_len pins s σ H _ us Q I r ⟨_, _, rfl, ⟨c, rfl⟩, k _ H Grow.refl (ResN.old Rep.mint)⟩
    · cases e
  · cases e
theorem se_lenP (i : Nat) {pc : Pos} (hg : Gl X "len") (hm : X.mg "len" = none) (hN : X.N[i]? = some x := by rfl) (hv : Vis X.env.scope x := by first | exact Or.inl rfl | exact Or.inr (Or.inl rfl) | exact Or.inr (Or.inr rfl)) (hd : (x == ("__debug__" : Str)) = false := by decide)
    (hcd : (x == ("__classdict__" : Str)) = false := by decide) (he : starEach [.Name x p] X.env = (false, eval (.Name x p) X.env) :: starEach [] X.env := by rfl) (hpl : (backTo pos (starEach [] X.env)).any (·.1) = false := by rfl) : SE X (.Call (.Name "len" pc) [.Name x p] [] pos) (lenP i) :=
  PE.weak (pe_callB call_lenDO hg hm boot_len (pa_cons (pe_var hN hv hd hcd) pa_nil he) (by decide) (by decide) he hpl) fun σ H Q h => by
    obtain ⟨F, T, bx, s, r, t, s', e, k⟩ := h
    obtain ⟨d, s1, e1, f1⟩ := bind_ok e
    obtain ⟨rfl, b0, h0⟩ := peek_ok e1
    obtain ⟨e4, rfl⟩ := lift_ok f1
    obtain ⟨v, hσ, hO⟩ := r.peek h0
    refine ⟨v, hσ, v, rfl, bx, _, d, t, hO, e4, fun v2 H2 g q => ?_⟩
    obtain ⟨y2, z⟩ := ResN.res r g q
    exact k v2 bx H2 y2 z
theorem se_slP (i : Nat) (hl : SO X lo ml) (hh : SO X hi mh) (hN : X.N[i]? = some x := by rfl) (hv : Vis X.env.scope x := by first | exact Or.inl rfl | exact Or.inr (Or.inl rfl) | exact Or.inr (Or.inr rfl)) (hd : (x == ("__debug__" : Str)) = false := by decide)
    (hcd : (x == ("__classdict__" : Str)) = false := by decide) : SE X (.Subscript (.Name x p) (.Slice lo hi none p2) pos) (slP i ml mh) :=
  PE.weak (pe_slice (sl_list.or (sl_tupA.or sl_str)) (pe_var hN hv hd hcd) hl hh) fun σ H Q h => by
    obtain ⟨F, T, bx, s, r, t, s', e, k⟩ := h
    obtain ⟨d0, s1, e1, f1⟩ := bind_ok e
    obtain ⟨rfl, b0, h0⟩ := peek_ok e1
    obtain ⟨l, s2, e2, f2⟩ := bind_ok f1
    obtain ⟨u, s3, e3, f3⟩ := bind_ok f2
    obtain ⟨d, s4, e5, f4⟩ := bind_ok f3
    obtain ⟨rfl, b1, h1⟩ := peek_ok e5
    obtain ⟨e4, rfl⟩ := lift_ok f4
    obtain ⟨v, hσ, _⟩ := r.peek h0
    refine ⟨v, hσ, F, T, bx, s1, r, l, s2, e2, fun bx2 H2 x2 => ⟨F, T, bx2, s2, x2.rel, u, s', e3, fun bx3 H3 x3 => ?_⟩⟩
    obtain ⟨v', hσ', q3⟩ := x3.rel.peek h1
    rw [hσ] at hσ'; cases hσ'
    have xx := x2.trans x3
    have fin : ∀ w H4, Grow H3 H4 → ResN X.K bx3 (Wf F s' σ T) H3 H4 t w → Q w H4 := fun w H4 g q => by
      obtain ⟨y, z⟩ := ResN.res x3.rel g q
      exact k w bx3 H4 (xx.trans y) z
    cases d with
    | lst xs =>
      cases e4
      obtain ⟨p, vs, rfl, h1, h2⟩ := q3.lst
      exact .inl ⟨p, vs, rfl, h1, fun q hq => fin _ _ (Grow.new hq) (ResN.newL hq (cutV_cutD h2 l u))⟩
    | tup xs =>
      cases e4
      have q3 := q3.old (by intro _ z; cases z)
      obtain ⟨p, vs, rfl, h1, h2⟩ := q3.tup
      refine .inr (.inl ⟨p, vs, rfl, h1, fun c => fin _ _ Grow.refl (ResN.old ?_), fun c q hq => fin _ _ (Grow.new hq) (ResN.newT hq (cutV_cutD h2 l u))⟩)
      have : cutD xs l u = xs := by
        unfold cutD
        rw [h2.length, c.1, c.2, List.drop_zero, Nat.sub_zero, List.take_of_length_le (Nat.le_of_eq h2.length)]
      rw [this]; exact q3
    | str z =>
      have q3 := q3.old (by intro _ z; cases z)
      have e4 : (if z.length ≤ sizeLine then some (D.str (cutS z l u), false) else none) = some t := e4
      split at e4
      · rename_i c
        cases e4
        exact .inr (.inr ⟨z, q3.str, c, fin _ _ Grow.refl (ResN.old Rep.mstr)⟩)
      · cases e4
    | _ => cases e4
end
def never {α : Type} : M α := fun _ => .no
section
variable {X : Cx} {st : Stmt} {sts : List Stmt} {e : Expr}
/-- what is never reached -/
theorem ss_never : SS X st never := ⟨fun pins s σ H D I q => by obtain ⟨F, T, bx, s', _, fl, s'', e, _⟩ := q; cases e⟩
theorem sss_never : SSs X sts never := ⟨fun pins s σ H D I q => by obtain ⟨F, T, bx, s', _, fl, s'', e, _⟩ := q; cases e⟩
theorem se_never : SE X e never := ⟨fun pins s σ H D I q => by obtain ⟨F, T, bx, s', _, fl, s'', e, _⟩ := q; cases e⟩
end
def isD : List D → Option DB
  | [.bl a, .bl b] => some (.bl (decide (a = b)), false)
  | _ => none
def isntD : List D → Option DB
  | [.bl a, .bl b] => some (.bl (!decide (a = b)), false)
  | _ => none
section
variable {X : Cx}
theorem op_isD : OpR X (compareOp .Is) (P2 X.K isD) := by
  intro pins s σ H x y v u Q I rx ry h
  obtain ⟨bx, W, ds, t, r, e, k⟩ := h
  obtain ⟨d1, d2, rfl, h1, h2⟩ := r.two
  unfold isD at e
  split at e
  · rename_i a b q
    cases q
    cases e
    exact op_isBl pins s σ H x y v u Q I rx ry ⟨a, b, h1.bl, h2.bl, k _ H Grow.refl (ResN.old Rep.mbl)⟩
  · cases e
theorem op_isntD : OpR X (compareOp .IsNot) (P2 X.K isntD) := by
  intro pins s σ H x y v u Q I rx ry h
  obtain ⟨bx, W, ds, t, r, e, k⟩ := h
  obtain ⟨d1, d2, rfl, h1, h2⟩ := r.two
  unfold isntD at e
  split at e
  · rename_i a b q
    cases q
    cases e
    exact op_notBl pins s σ H x y v u Q I rx ry ⟨a, b, h1.bl, h2.bl, k _ H Grow.refl (ResN.old Rep.mbl)⟩
  · cases e
end
theorem blF_is : BlF isD := fun ds t h => by
  unfold isD at h
  split at h <;> cases h
  exact ⟨_, rfl⟩
theorem blF_isnt : BlF isntD := fun ds t h => by
  unfold isntD at h
  split at h <;> cases h
  exact ⟨_, rfl⟩
end L2.Pd
set_option maxHeartbeats 4000000
namespace L2.Pd
open PySem PySem.Spec PyProof.Rows
section
variable {X : Cx} {elt tg iter c : Expr} {scope : Scope} {own : List (Str × Nat)} {pos spos py : Pos} {mi : M (List D)} {g : D → M Unit} {tt : M Bool} {te ma : M DB} {ws : List Nat} {i : Nat} {y : Str}
theorem rdSet {K : PySem.W.Frag} {D : Ends} {σ : St} {H : Hp} (h : rdS K (setv i ma) D σ H) : rdT K ma σ H fun v H1 => D.nx (σ.set i (some v)) H1 := by
  obtain ⟨F, T, bx, s, r, fl, s', e, k⟩ := h
  obtain ⟨t, s1, e1, e⟩ := bind_ok e
  obtain ⟨rfl, hlt, rfl⟩ := putv_ok e
  exact ⟨F, T, bx, s, r, t, s1, e1, fun v bx' H' x q => k bx' _ H' (x.put q hlt)⟩
theorem ss_setLc (hc : X.calm = true) (hN : X.N.Nodup) (hy : X.N[i]? = some y) (hyl : X.env.scope.names.lookup y = some .local) (hi : SI X tg iter mi) (ok : BlkOk X.N X.env.scope scope own) (hws : ∀ j ∈ ws, j ∈ own.map (·.2)) (hg : Blk X scope fun Y => SG Y tg g ws) (he : Blk X scope fun Y => SE Y elt te)
    (hsw : swapsWith (.ListComp elt [⟨tg, iter, [], 0⟩] scope pos) (some (.Name y py)) spos.line X.env = pure true)
    (hs : ∀ x, foldedSetIterable iter X.env x = pure x := by intro _; rfl) : SS X (.Assign [.Name y py] (.ListComp elt [⟨tg, iter, [], 0⟩] scope pos) spos) (setv i (lcM mi g noT te (own.map (·.2)))) :=
  PS.weak (ps_setLc (wi := rdI X.K mi) (g := rdG X.K g ws) (te := rdT X.K te) (tt := rdB X.K noT) hc hN hy hyl hsw hi ok hg (fun s H C cl fp => ⟨fun pins s' σ H' Q I q => (pts_nil (X := X.blk s H scope (compEnvC scope cl C X.env) fp)).run pins s' σ H' Q I q.yes⟩) he hs) fun _ _ _ h => rdT.lc hws (rdSet h)
theorem ss_setLcIf (hc : X.calm = true) (hN : X.N.Nodup) (hy : X.N[i]? = some y) (hyl : X.env.scope.names.lookup y = some .local) (hi : SI X tg iter mi) (ok : BlkOk X.N X.env.scope scope own) (hws : ∀ j ∈ ws, j ∈ own.map (·.2)) (hg : Blk X scope fun Y => SG Y tg g ws) (ht : Blk X scope fun Y => SB Y c tt) (he : Blk X scope fun Y => SE Y elt te)
    (hsw : swapsWith (.ListComp elt [⟨tg, iter, [c], 0⟩] scope pos) (some (.Name y py)) spos.line X.env = pure true)
    (hs : ∀ x, foldedSetIterable iter X.env x = pure x := by intro _; rfl) : SS X (.Assign [.Name y py] (.ListComp elt [⟨tg, iter, [c], 0⟩] scope pos) spos) (setv i (lcM mi g tt te (own.map (·.2)))) :=
  PS.weak (ps_setLc (wi := rdI X.K mi) (g := rdG X.K g ws) (te := rdT X.K te) (tt := rdB X.K tt) hc hN hy hyl hsw hi ok hg (fun s H C cl fp => pts_one (ht s H C cl fp)) he hs) fun _ _ _ h => rdT.lc hws (rdSet h)
end
section
variable {P : Program} {w : World} {K : PySem.W.Frag} {mg : Str → Option Value} {base : Heap} {x qual : Str} {params : Arguments} {body : List Stmt} {scope : Scope} {f : Addr} {fd : FuncData} {ps : List Str} {k n : Nat} {fn : Fn}
/-- a def of no defaults, all places written -/
theorem defC_all {kws : List (Str × V)} (F : FunD K x qual params body scope [] kws f fd) (hm : mg x = some (.ref f)) (G : FnOkG P w K mg base CX0 k f fd ps (spF K n fn)) (ar : Ar fn n)
    (h : ∀ (kV doc pm : Value) (an : Option Addr) (cdv ct : Value) (us : List Value), us.length = ps.length → bindArgs (PySem.W.fnOf x qual params body scope .none kV doc pm an cdv ct) ⟨us, []⟩ = pure (ps.zip us)) : DefC P w K mg base x k n fn [] :=
  ⟨⟨f, fd, ps, [], [], G, hm, F.kp, F.bindsN h, .nil, fun _ _ _ => .nil⟩, ar⟩
/-- a def with defaults: dvs, of which those from j on fill up; dd their data -/
theorem defC_dfl {dvs : List V} {kws : List (Str × V)} {dd : List D} (F : FunD K x qual params body scope dvs kws f fd) (hm : mg x = some (.ref f)) (G : FnOkG P w K mg base CX0 k f fd ps (spF K n fn)) (ar : Ar fn n) (m j : Nat) (hd : dvs ≠ []) (hn : m + (dvs.length - j) = ps.length)
    (hdd : ∀ bx W H, RepL K bx W H dd (dvs.drop j))
    (h : ∀ (T : Addr) (kV doc pm : Value) (an : Option Addr) (cdv ct : Value) (us its : List Value), us.length = m → its.length = dvs.length →
      ∃ k, bindArgs (PySem.W.fnOf x qual params body scope (.ref T) kV doc pm an cdv ct) ⟨us, []⟩ = seqItems? (.ref T) >>= k ∧ k (some its.toArray) = pure (ps.zip (us ++ its.drop j))) : DefC P w K mg base x k n fn dd := by
  obtain ⟨ds, h1, h2⟩ := F.binds1 m j hd hn h
  exact ⟨⟨f, fd, ps, ds, dvs.drop j, G, hm, F.kp, h2, h1, hdd⟩, ar⟩
theorem defK_of {dvs : List V} {kws : List (Str × V)} {dd : List D} {n1 : Nat} {ks : List Str} {sl : List Sel} (F : FunD K x qual params body scope dvs kws f fd) (hm : mg x = some (.ref f)) (G : FnOkG P w K mg base CX0 k f fd ps (spF K n fn)) (hp : ps.length = n)
    (hb : ∃ its, Vals dvs its ∧ KB K fd ps n1 ks sl its) (hdd : ∀ bx W H, RepL K bx W H dd dvs) (hok : sl.all (Sel.ok n1 dd.length ks.length) = true) (hl : sl.length = n) : DefK P w K mg base x k n fn n1 ks dd sl := by
  obtain ⟨its, h1, h2⟩ := hb
  exact ⟨⟨f, fd, ps, its, dvs, G, hm, F.kp, h2, h1, hdd, hp⟩, hok, hl⟩
end
end L2.Pd
set_option maxHeartbeats 4000000
namespace L2.Pd
open PySem PySem.Spec PyProof.Rows
/-- x op= e, both whole numbers -/
def augM (i : Nat) (f : Int → Int → Int) (m : M DB) : M Fl := do
  let d ← peek i
  let t ← m
  match d, t.1 with
  | .int a, .int b => putv i (.int (f a b), false)
  | _, _ => lift none
def maxLD : List D → Option DB
  | [.lst ds] => (intsOf ds).bind fun ns => ns.max?.map fun m => (.int m, false)
  | _ => none
def minLD : List D → Option DB
  | [.lst ds] => (intsOf ds).bind fun ns => ns.min?.map fun m => (.int m, false)
  | _ => none
open Classical in
noncomputable def divmodD : List D → Option DB
  | [.int i, .int j] => if okDiv j then some (.tup [.int (i / j), .int (i % j)], false) else none
  | _ => none
/-- x[::-1] -/
def revM (m : M DB) : M DB := do
  let t ← m
  lift (match t.1 with
    | .lst ds => some (.lst ds.reverse, true)
    | _ => none)
theorem _root_.L2.Room.un65 {k : Nat} {A : Around} (r : Room k A) : A.units + 65 < cLine := by have := r.un; omega
def par3 (i j l : Nat) (a b c : M DB) : M Fl := do
  let x ← a
  let y ← b
  let z ← c
  let _ ← putv l z
  let _ ← putv j y
  putv i x
section
variable {X : Cx} {a b c : Expr} {ma mb mc : M DB} {i : Nat} {x : Str} {p p1 p2 p3 pos pos' apos cpos : Pos}
theorem ss_aug {op : Operator} {f : Int → Int → Int} (ho : PIp X op (ipI f)) (hN : X.N.Nodup) (hi : X.N[i]? = some x) (hx : Loc X.env.scope x) (he : SE X a ma)
    (hf : X.fn x = true ∨ X.env.scope.names.lookup x = some .local := by first | exact .inl rfl | exact .inr rfl | assumption) : SS X (.AugAssign (.Name x pos') op a pos) (augM i f ma) :=
  PS.weak (ps_aug hN hi hx he.d ho hf) fun D σ H h => by
    obtain ⟨F, T, bx, s, r, fl, s', e, k⟩ := h
    obtain ⟨d, s1, e1, f1⟩ := bind_ok e
    obtain ⟨rfl, b0, h0⟩ := peek_ok e1
    obtain ⟨t, s2, e2, f2⟩ := bind_ok f1
    obtain ⟨d2, fr⟩ := t
    cases d with
    | int n =>
      cases d2 with
      | int m =>
        obtain ⟨rfl, hlt, rfl⟩ := putv_ok f2
        obtain ⟨v, hσ, hO⟩ := r.peek h0
        have ev : v = .int n := (hO.old (by intro _ z; cases z)).int
        refine ⟨v, hσ, F, T, bx, s1, r, L2.Pd.D.int m, s2, by rw [bind_run, e2]; rfl, fun w bx1 H1 x1 q1 => ⟨n, m, ev, q1.int, ?_⟩⟩
        have x2 : Stp X.K F T bx1 s2 σ H1 bx1 (tmpOf (L2.Pd.D.int (f n m), false) (V.int (f n m)) T) s2 σ H1 := Stp.refl x1.rel
        exact k bx1 _ H1 (x1.trans (x2.put (show Res X.K F T bx1 s2 σ H1 (L2.Pd.D.int (f n m), false) (V.int (f n m)) from Res.old Rep.mint) hlt))
      | _ => cases f2
    | _ => cases f2
theorem call_maxLD (hc : X.calm = true) : CallR X (.builtin "max") (Pu X.K maxLD) := by
  intro pins s σ H xs us Q I r h
  obtain ⟨bx, W, ds, t, q, e, k⟩ := h
  unfold maxLD at e
  split at e
  · obtain ⟨ns, e1, e⟩ := Option.bind_eq_some_iff.mp e
    obtain ⟨m, e2, rfl⟩ := Option.map_eq_some_iff.mp e
    obtain ⟨v, vs, rfl, h1, h2⟩ := q.uncons
    rw [h2.unnil] at r
    obtain ⟨a, xs, rfl, q1, q2⟩ := h1.lst
    rw [intsOf_eq e1] at q2
    rw [q2.unints] at q1
    have top := List.max?_eq_some_iff.mp e2
    refine cr_max hc pins s σ H _ us Q I r ⟨a, ns, rfl, q1, List.length_pos_of_mem top.1, fun m' hm hle => ?_⟩
    have : m' = m := Int.le_antisymm (top.2 m' hm) (hle m top.1)
    rw [this]
    exact k _ H Grow.refl (ResN.old Rep.mint)
  · cases e
theorem call_minLD (hc : X.calm = true) : CallR X (.builtin "min") (Pu X.K minLD) := by
  intro pins s σ H xs us Q I r h
  obtain ⟨bx, W, ds, t, q, e, k⟩ := h
  unfold minLD at e
  split at e
  · obtain ⟨ns, e1, e⟩ := Option.bind_eq_some_iff.mp e
    obtain ⟨m, e2, rfl⟩ := Option.map_eq_some_iff.mp e
    obtain ⟨v, vs, rfl, h1, h2⟩ := q.uncons
    rw [h2.unnil] at r
    obtain ⟨a, xs, rfl, q1, q2⟩ := h1.lst
    rw [intsOf_eq e1] at q2
    rw [q2.unints] at q1
    have top := List.min?_eq_some_iff.mp e2
    refine cr_min hc pins s σ H _ us Q I r ⟨a, ns, rfl, q1, List.length_pos_of_mem top.1, fun m' hm hle => ?_⟩
    have : m' = m := Int.le_antisymm (hle m top.1) (top.2 m' hm)
    rw [this]
    exact k _ H Grow.refl (ResN.old Rep.mint)
  · cases e
theorem call_divmodD : CallR X (.builtin "divmod") (Pu X.K divmodD) := by
  intro pins s σ H xs us Q I r h
  obtain ⟨bx, W, ds, t, q, e, k⟩ := h
  unfold divmodD at e
  split at e
  · rename_i i j
    split at e
    · rename_i c
      cases e
      obtain ⟨v, vs, rfl, h1, h2⟩ := q.uncons
      obtain ⟨u, vs, rfl, h3, h4⟩ := h2.uncons
      rw [h4.unnil, h1.int, h3.int] at r
      exact call_divmodW pins s σ H _ us Q I r ⟨i, j, rfl, ⟨c.1, PyProof.noPylong_of_log2 c.2⟩, fun p hp => k _ _ (Grow.new hp) (ResN.newT hp (.cons Rep.mint (.cons Rep.mint .nil)))⟩
    · cases e
  · cases e
theorem se_rev {k : Nat} (ha : SE X a ma) : SE X (.Subscript a (.Slice none none (some (.UnaryOp .USub (.Constant (.int 1) k p1) p2)) p3) pos) (revM ma) :=
  PE.weak (pe_revL ha.d) fun σ H Q h => by
    obtain ⟨F, T, bx, s, r, t, s', e, kk⟩ := h
    obtain ⟨d, s1, e1, e⟩ := bind_ok e
    obtain ⟨e2, rfl⟩ := lift_ok e
    obtain ⟨dd, fr⟩ := d
    cases dd with
    | lst ds =>
      cases e2
      refine ⟨F, T, bx, s, r, .lst ds, s', by rw [bind_run, e1]; rfl, fun v bx1 H1 x1 q1 => ?_⟩
      obtain ⟨q, vs, rfl, h1, h2⟩ := q1.lst
      refine ⟨q, vs, rfl, h1, fun z hz => ?_⟩
      obtain ⟨y, w⟩ := ResN.res x1.rel (Grow.new hz) (ResN.newL hz h2.reverse)
      exact kk _ bx1 _ (x1.trans y) w
    | _ => cases e2
/-- x.insert(e, e'), x an owned list -/
theorem se_ins (i : Nat) (ha : SE X a ma) (hb : SE X b mb) (hN : X.N[i]? = some x := by rfl) (hv : Vis X.env.scope x := by first | exact Or.inl rfl | exact Or.inr (Or.inl rfl) | exact Or.inr (Or.inr rfl)) (hd : (x == ("__debug__" : Str)) = false := by decide)
    (hcd : (x == ("__classdict__" : Str)) = false := by decide)
    (hbase : attributeBase (.Name x p) "insert" X.env (eval (.Name x p) X.env) = eval (.Name x p) X.env := by rfl)
    (hfew : ((backTo cpos (starEach [a, b] X.env)).all (fun x => !x.1) && (backToKw cpos (keywordEach [] X.env)).all (fun x => x.1.isSome)
      && decide ([a, b].length + ([] : List Keyword).length + (if ([] : List Keyword).isEmpty then 0 else 1) < 30)) = true := by rfl)
    (hline : (apos.endLine == cpos.line) = true := by rfl) (hs : starEach [a, b] X.env = (false, eval a X.env) :: starEach [b] X.env := by rfl) (hs2 : starEach [b] X.env = (false, eval b X.env) :: starEach [] X.env := by rfl) (hplain : (backTo cpos (starEach [b] X.env)).any (·.1) = false := by rfl) :
    SE X (.Call (.Attribute (.Name x p) "insert" apos) [a, b] [] cpos) (insM i ma mb) :=
  PE.weak (pe_bm PySem.F.plainAttrs_list PySem.F.slot_list_insert PySem.F.type_list_insert mt_insert (pe_var hN hv hd hcd) (pa_cons ha.d (pa_cons hb.d pa_nil hs2) hs) hbase hfew hline hs hplain) fun σ H Q h => by
    obtain ⟨F, T, bx, s, r, t, s', e, k⟩ := h
    obtain ⟨⟨ds0, h0⟩, e⟩ := onOwn_ok e
    obtain ⟨u, s1, e1, f1⟩ := bind_ok e
    obtain ⟨w, s2, e2, f2⟩ := bind_ok f1
    obtain ⟨l, xs0, hσ, hH, _⟩ := r.own h0
    refine ⟨.ref l, hσ, .inl ⟨rfl, xs0, .inl (.inl hH)⟩, F, T, bx, s, r, u.1, s1, by rw [bind_run, e1]; rfl, fun v1 bx1 H1 x1 q1 => ⟨F, T, bx1, s1, x1.rel, w.1, s2, by rw [bind_run, e2]; rfl, fun v2 bx2 H2 x2 q2 => ?_⟩⟩
    have q1 := x2.tr _ _ q1
    have x12 := x1.trans x2
    split at f2
    · rename_i ds j hds hu
      split at f2
      · rename_i c
        cases f2
        obtain ⟨l', xs, hσ', hH', hR⟩ := x12.rel.own hds
        rw [hσ] at hσ'; cases hσ'
        rw [hu] at q1
        refine ⟨l, xs, j, v2, rfl, by rw [q1.int], hH', by rw [← hR.length]; exact c.2.2, c.1, by omega, ?_⟩
        have made : RepL X.K bx2 (Wf F s2 σ T) H2 (ds.take j.toNat ++ w.1 :: ds.drop j.toNat) (xs.take j.toNat ++ [v2] ++ xs.drop j.toNat) := by
          rw [List.append_assoc]
          exact (hR.take _).append (.cons q2 (hR.drop _))
        have x3 := x12.rel.mut hds hσ hH' made
        exact k .non bx2 _ (x12.trans x3) (Res.old Rep.mnon)
      · cases f2
    · cases f2
theorem ss_par3 {i j l : Nat} {x y z : Str} {px py pz pt : Pos} {kt k2 : Nat} {pt2 : Pos} (hc : X.calm = true) (hN : X.N.Nodup) (hi : X.N[i]? = some x) (hj : X.N[j]? = some y) (hl : X.N[l]? = some z) (hij : i ≠ j) (hil : i ≠ l) (hjl : j ≠ l)
    (hx : X.env.scope.names.lookup x = some .local) (hy : X.env.scope.names.lookup y = some .local) (hz : X.env.scope.names.lookup z = some .local) (ha : SE X a ma) (hb : SE X b mb) (hcc : SE X c mc)
    (hw : swappedStores [.Tuple [.Name x px, .Name y py, .Name z pz] kt pt] (.Tuple [a, b, c] k2 pt2) X.env = pure (some [x, y, z]))
    (hs : swapsWithSole [.Tuple [.Name x px, .Name y py, .Name z pz] kt pt] (.Tuple [a, b, c] k2 pt2) pos.line X.env = pure false := by rfl)
    (hs1 : starEach [a, b, c] X.env = (false, eval a X.env) :: starEach [b, c] X.env := by rfl) (hs2 : starEach [b, c] X.env = (false, eval b X.env) :: starEach [c] X.env := by rfl) (hs3 : starEach [c] X.env = (false, eval c X.env) :: starEach [] X.env := by rfl) :
    SS X (.Assign [.Tuple [.Name x px, .Name y py, .Name z pz] kt pt] (.Tuple [a, b, c] k2 pt2) pos) (par3 i j l ma mb mc) :=
  PS.weak (ps_par3 hc hN hi hj hl hij hil hjl hx hy hz (pa_cons ha (pa_cons hb (pa_cons hcc pa_nil hs3) hs2) hs1) hw hs) fun D σ H h => by
    obtain ⟨F, T, bx, s, r, fl, s', e, k⟩ := h
    obtain ⟨t1, s1, e1, f1⟩ := bind_ok e
    obtain ⟨t2, s2, e2, f2⟩ := bind_ok f1
    obtain ⟨t3, s3, e3, f3⟩ := bind_ok f2
    obtain ⟨_, s4, e4, f4⟩ := bind_ok f3
    obtain ⟨_, s5, e5, f5⟩ := bind_ok f4
    obtain ⟨_, h4, hs4⟩ := putv_ok e4
    obtain ⟨_, h5, hs5⟩ := putv_ok e5
    obtain ⟨rfl, h6, rfl⟩ := putv_ok f5
    refine ⟨F, T, bx, s, r, t1, s1, e1, fun v1 bx1 H1 x1 q1 => ⟨F, tmpOf t1 v1 T, bx1, s1, x1.rel, t2, s2, e2, fun v2 bx2 H2 x2 q2 => ⟨F, tmpOf t2 v2 (tmpOf t1 v1 T), bx2, s2, x2.rel, t3, s3, e3, fun v3 bx3 H3 x3 q3 => ⟨v1, v2, v3, rfl, ?_⟩⟩⟩⟩
    subst hs4
    have y4 := x3.put q3 h4
    have q4 := q2.to y4
    subst hs5
    have y5 := (x2.trans y4).put q4 h5
    have q5 := q1.to y5
    have y6 := (x1.trans y5).put q5 h6
    have order : ((σ.set i (some v1)).set j (some v2)).set l (some v3) = ((σ.set l (some v3)).set j (some v2)).set i (some v1) := by
      rw [List.set_comm _ _ hij, List.set_comm _ _ hil, List.set_comm _ _ hjl]
    rw [order]
    exact k bx3 _ H3 y6
end
end L2.Pd
set_option maxHeartbeats 4000000
namespace L2.Pd
open PySem PySem.Spec PyProof.Rows
section
variable {prog : Program} {w : World} {A : Around} {E : Value → Shared → Prop} {s : Shared}
/-- the bounds of a stepped cut -/
def stB (lo hi : Option Int) (c : Int) (n : Nat) : Int × Int := Builtin.Slice.sliceAdjust lo hi c (n : Int)
def stN (lo hi : Option Int) (c : Int) (n : Nat) : Nat := Builtin.Slice.slicePlaces (stB lo hi c n).1 (stB lo hi c n).2 c
def stP {α : Type} (xs : List α) (lo hi : Option Int) (c : Int) : List α := (List.range (stN lo hi c xs.length)).filterMap fun (k : Nat) => xs[((stB lo hi c xs.length).1 + (k : Int) * c).toNat]?
theorem part_of {v : Value} {o : Option Int} {Q : Option Int → Shared → Prop} (p : IsPart v o) (h : Q o s) : wpAny (model prog w) A (Builtin.Slice.slicePartIndex v) Q E s := HT.slicePart_ p h
theorem applied_st {sl : Addr} {vl vu vs : Value} {lo hi : Option Int} {c : Int} {n : Nat} {Q : Int × Int × Nat → Shared → Prop} (hs : s.heap.IsSliceOf sl vl vu vs) (pl : IsPart vl lo) (pu : IsPart vu hi) (ps : IsPart vs (some c)) (hc : c ≠ 0)
    (h : Q ((stB lo hi c n).1, c, stN lo hi c n) s) : wpAny (model prog w) A (Builtin.Slice.sliceApplied (.ref sl) (pure (n : Int))) Q E s := by
  obtain ⟨ob, g1, g2, g3⟩ := id hs
  unfold Builtin.Slice.sliceApplied Builtin.Slice.sliceFields
  refine wpAny_bind (wpAny_bind (wpAny_field g1 g3 (x := vl) rfl (wpAny_bind (wpAny_field g1 g3 (x := vu) rfl (wpAny_bind (wpAny_field g1 g3 (x := vs) rfl (wpAny_pure ?_)))))))
  refine wpAny_bind (part_of ps ?_)
  have hc' : ¬ ((c == 0) = true) := by simpa using hc
  show wpAny _ _ (if (c == 0) = true then _ else _) _ _ s
  rw [if_neg hc']
  exact wpAny_bind (part_of pl (wpAny_bind (part_of pu (wpAny_bind (wpAny_pure (wpAny_pure h))))))
theorem stP_len {α : Type} {xs : List α} {lo hi : Option Int} {c : Int} : (stP xs lo hi c).length ≤ stN lo hi c xs.length := by
  unfold stP
  refine Nat.le_trans (List.length_filterMap_le _ _) ?_
  simp
theorem getTup_st {t sl : Addr} {items : Array Value} {vl vu vs : Value} {lo hi : Option Int} {c : Int} {Q : Value → Shared → Prop} (ht : IsTup s.heap t items) (hs : s.heap.IsSliceOf sl vl vu vs) (pl : IsPart vl lo) (pu : IsPart vu hi) (ps : IsPart vs (some c)) (hc : c ≠ 0) (hc1 : c ≠ 1)
    (h : Q (.ref s.heap.objs.size) { s with heap := s.heap.push { cls := .type "tuple", data := .seq (stP items.toList lo hi c).toArray } })
    (hsz : (stP items.toList lo hi c).length ≤ sizeLine) : wpAny (model prog w) A (getItem (.ref t) (.ref sl)) Q E s := by
  have big : sizeOk (.seq (stP items.toList lo hi c).toArray) := by
    show (stP items.toList lo hi c).toArray.size ≤ sizeLine
    rw [List.size_toArray]; exact hsz
  obtain ⟨ob, g1, g2, g3⟩ := id hs
  have isS : s.TypeIs (.ref sl) "slice" := ⟨ob, g1, g2⟩
  unfold getItem
  try with_reducible refine wpAny_holding ?_
  first | refine wpAny_bind (wpAny_pure ?_) | skip
  refine wpAny_bind (wpAny_sequenceKey ht.typeIs (by decide) ?_)
  refine wpAny_bind (wpAny_callSpecial?_slot (name := Str.ofString "__getitem__") ht.typeIs PyProof.Rows.slot_tuple_getitem (wpAny_call_entry PyProof.Rows.slot_tuple_getitem ht.typeIs entry_tuple_getitem ?_ (args_tuple_getitem _ _)))
  show wpAny _ _ (Builtin.Tuple.tupleItemsOf (.ref t) >>= _) _ _ s
  refine wpAny_bind (tupleItemsOf_ ht (wpAny_bind (wpAny_typeOf isS ?_)))
  rw [if_pos (by decide)]
  refine wpAny_bind (applied_st hs pl pu ps hc ?_)
  have no : ¬ (((stB lo hi c items.size).1 == 0 && c == 1 && stN lo hi c items.size == items.size) = true) := by
    intro q
    rw [Bool.and_eq_true, Bool.and_eq_true] at q
    exact hc1 (eq_of_beq q.1.2)
  show wpAny _ _ (if ((stB lo hi c items.size).1 == 0 && c == 1 && stN lo hi c items.size == items.size) = true then _ else _) _ _ s
  rw [if_neg no]
  have ep : ((List.range (stN lo hi c items.size)).filterMap fun (k : Nat) => items[((stB lo hi c items.size).1 + (k : Int) * c).toNat]?) = stP items.toList lo hi c := by
    unfold stP
    rw [Array.length_toList]
    congr 1
    funext k
    rw [Array.getElem?_toList]
  rw [ep]
  first
    | exact wpAny_bind (m := Builtin.Tuple.tupleExact _) (wpAny_newObj_type (wpAny_pure ⟨_, rfl, wpAny_pure h⟩) big)
    | exact wpAny_bind (m := Builtin.Tuple.tupleExact _) (wpAny_newObj_type (wpAny_bind (wpAny_pure (wpAny_pure ⟨_, rfl, wpAny_pure h⟩))) big)
    | exact wpAny_bind (wpAny_bind (m := Builtin.Tuple.tupleExact _) (wpAny_newObj_type (wpAny_pure (wpAny_pure ⟨_, rfl, wpAny_pure h⟩)) big))
    | exact wpAny_bind (wpAny_bind (m := Builtin.Tuple.tupleExact _) (wpAny_newObj_type (wpAny_pure ⟨_, rfl, wpAny_pure h⟩) big))
end
theorem stB_rev (n : Nat) : stB none none (-1) n = ((n : Int) - 1, -1) := by
  unfold stB Builtin.Slice.sliceAdjust
  simp
theorem stN_rev (n : Nat) : stN none none (-1) n = n := by
  unfold stN
  rw [stB_rev]
  unfold Builtin.Slice.slicePlaces
  simp
  split <;> omega
theorem fm_congr {α β : Type} {f g : α → Option β} : ∀ {l : List α}, (∀ x ∈ l, f x = g x) → l.filterMap f = l.filterMap g
  | [], _ => rfl
  | x :: l, h => by
    rw [List.filterMap_cons, List.filterMap_cons, h x List.mem_cons_self, fm_congr fun y hy => h y (List.mem_cons_of_mem _ hy)]
theorem fm_all {α : Type} : ∀ (n : Nat) (ys : List α), n = ys.length → (List.range n).filterMap (fun k => ys[k]?) = ys
  | 0, [], _ => rfl
  | 0, y :: ys, h => by simp at h
  | n + 1, ys, h => by
    have e2 : ∀ k ∈ List.range n, ys[k]? = ys.dropLast[k]? := fun k hk => by
      rw [List.getElem?_dropLast, if_pos (by have := List.mem_range.mp hk; omega)]
    rw [List.range_succ, List.filterMap_append, fm_congr e2, fm_all n ys.dropLast (by simp; omega)]
    have : ys ≠ [] := fun z => by rw [z] at h; simp at h
    have e3 : ys[n]? = some (ys.getLast this) := by
      rw [List.getLast_eq_getElem, List.getElem?_eq_getElem (by omega)]
      congr 2; omega
    simp only [List.filterMap_cons, List.filterMap_nil, e3]
    exact List.dropLast_concat_getLast this
theorem stP_rev {α : Type} (xs : List α) : stP xs none none (-1) = xs.reverse := by
  unfold stP
  rw [stN_rev, stB_rev]
  have e : ∀ k ∈ List.range xs.length, xs[((xs.length : Int) - 1 + (k : Int) * -1).toNat]? = xs.reverse[k]? := by
    intro k hk
    have hk : k < xs.length := List.mem_range.mp hk
    rw [List.getElem?_reverse hk]
    congr 1
    omega
  exact (fm_congr e).trans (fm_all _ _ (by simp))
theorem Vals.pickN {β : Type} (g : Nat → Nat) : ∀ (ks : List Nat) {xs : List V} {us : List Value}, Vals xs us → Vals (ks.filterMap fun k => xs[g k]?) (ks.filterMap fun k => us[g k]?)
  | [], _, _, _ => .nil
  | k :: ks, xs, us, r => by
    rw [List.filterMap_cons, List.filterMap_cons]
    have ih := Vals.pickN (β := β) g ks r
    cases h : xs[g k]? with
    | none => rw [L2.Vals.none_of r h]; exact ih
    | some x =>
      obtain ⟨u, e, q⟩ := L2.Vals.get r h
      rw [e]; exact .cons q ih
theorem RepL.pickN {K : PySem.W.Frag} {bx : Bxs} {W : Wd} {H : Hp} (g : Nat → Nat) : ∀ (ks : List Nat) {ds : List D} {vs : List V}, RepL K bx W H ds vs → RepL K bx W H (ks.filterMap fun k => ds[g k]?) (ks.filterMap fun k => vs[g k]?)
  | [], _, _, _ => .nil
  | k :: ks, ds, vs, r => by
    rw [List.filterMap_cons, List.filterMap_cons]
    have ih := RepL.pickN g ks r
    cases h : ds[g k]? with
    | none =>
      have : vs[g k]? = none := List.getElem?_eq_none (by have := List.getElem?_eq_none_iff.mp h; rw [← r.length]; exact this)
      rw [this]; exact ih
    | some x =>
      obtain ⟨u, e, q⟩ := RepL.get r h
      rw [e]; exact .cons q ih
theorem Vals.stP {xs : List V} {us : List Value} (r : Vals xs us) (lo hi : Option Int) (c : Int) : Vals (stP xs lo hi c) (stP us lo hi c) := by
  unfold L2.Pd.stP
  rw [L2.Vals.length r]
  exact Vals.pickN (β := Unit) _ _ r
theorem RepL.stP {K : PySem.W.Frag} {bx : Bxs} {W : Wd} {H : Hp} {ds : List D} {vs : List V} (r : RepL K bx W H ds vs) (lo hi : Option Int) (c : Int) : RepL K bx W H (stP ds lo hi c) (stP vs lo hi c) := by
  unfold L2.Pd.stP
  rw [r.length]
  exact RepL.pickN _ _ r
section
variable {X : Cx} {e se : Expr} {te : TE} {lo hi : Option Expr} {tl th ts : TO} {p3 pos : Pos}
theorem pe_st (he : PE X e te) (hl : PO X lo tl) (hh : PO X hi th) (hst : PO X (some se) ts) : PE X (.Subscript e (.Slice lo hi (some se) p3) pos)
    (fun σ H Q => te σ H fun x H1 => tl σ H1 fun l H2 => th σ H2 fun u H3 => ts σ H3 fun c H4 =>
      (∃ a xs k, x = .ref a ∧ SqT X.K H4 a xs ∧ c = some k ∧ k ≠ 0 ∧ k ≠ 1 ∧ (stP xs l u k).length ≤ sizeLine ∧ ∀ q, H4 q = none → Q (.ref q) (upd H4 q (.tup (stP xs l u k)))) ∨
      ∃ a xs, x = .ref a ∧ SqL X.K H4 a xs ∧ l = none ∧ u = none ∧ c = some (-1) ∧ ∀ q, H4 q = none → Q (.ref q) (upd H4 q (.lst xs.reverse))) := by
  refine ⟨fun pins s σ H Q I h => Subscript_ (thn (he.run pins s σ H _ I h) fun v s1 ⟨x, H1, I1, r1, q1⟩ => ?_)⟩
  refine wpAny_Slice (thn (hl.run pins s1 σ H1 _ I1 q1) fun vl s2 ⟨l, H2, I2, pl, q2⟩ => thn (hh.run pins s2 σ H2 _ I2 q2) fun vu s3 ⟨u, H3, I3, pu, q3⟩ => thn (hst.run pins s3 σ H3 _ I3 q3) fun vs s4 ⟨c, H4, I4, ps, q4⟩ => ?_)
  have I5 : Inv X pins σ H4 { s4 with heap := s4.heap.push { cls := .type "slice", data := .fields #[vl, vu, vs] } } := I4.kept (t' := s4.toks) fun b ob q => Heap.get?_push_of_some _ q
  rcases q4 with ⟨a, xs, k, rfl, hx, rfl, k0, k1, hz, q⟩ | ⟨a, xs, rfl, hx, rfl, rfl, rfl, q⟩
  · cases r1
    obtain ⟨its, r, ht, hz'⟩ := I5.tuple hx
    have rP := Vals.stP r l u k
    refine tail_any (ops := [.ref a, .ref s4.heap.objs.size]) ht.typeIs PyProof.Rows.slot_tuple_getitem.lookup ?_ (by with_unfolding_all rfl)
    refine getTup_st ht (Heap.IsSliceOf.new _ vl vu vs) pl pu ps k0 k1 ?_ (by rw [← L2.Vals.length rP]; exact hz)
    refine ⟨.ref _, _, I5.laid (t' := s4.toks) (o := .tup (stP xs l u k)) (fun b ob q => Heap.get?_push_of_some _ q) (Nat.le_refl _) ?_, rfl, q _ (I5.hok.fresh (Nat.le_refl _))⟩
    exact ⟨hz, _, rP, IsTup.new _ _⟩
  · cases r1
    obtain ⟨its, r, ht, hz⟩ := I5.list hx
    have hlen := L2.Vals.length r
    refine tail_any (ops := [.ref a, .ref s4.heap.objs.size]) ht.isList.typeIs PySem.slot_list_getitem.lookup ?_ (by with_unfolding_all rfl)
    refine wpAny_getItem_list_slice ht.isList (Heap.IsSliceOf.new _ vl vu vs) pl pu ps (by decide) ?_ (by rw [List.size_toArray]; omega)
    rw [PySem.W.krv_pick]
    refine ⟨.ref _, _, I5.laid (t' := s4.toks) (o := .lst xs.reverse) (fun b ob q => Heap.get?_push_of_some _ q) (Nat.le_refl _) ?_, rfl, q _ (I5.hok.fresh (Nat.le_refl _))⟩
    exact ⟨by rw [List.length_reverse]; exact hz, _, 0, r.reverse, Heap.get?_push_size _ rfl⟩
end
/-- x[lo:hi:c] of a tuple; x[::-1] of a list too -/
def stD (d : D) (lo hi c : Option Int) : Option DB := match d, lo, hi, c with
  | .tup ds, lo, hi, some k => if k ≠ 0 ∧ k ≠ 1 ∧ (stP ds lo hi k).length ≤ sizeLine then some (.tup (stP ds lo hi k), false) else none
  | .lst ds, none, none, some (-1) => some (.lst ds.reverse, true)
  | _, _, _, _ => none
theorem stD_cases {d : D} {l u c : Option Int} {t : DB} (e5 : stD d l u c = some t) : (∃ ds kk, d = .tup ds ∧ c = some kk ∧ (kk ≠ 0 ∧ kk ≠ 1 ∧ (stP ds l u kk).length ≤ sizeLine) ∧ t = (.tup (stP ds l u kk), false)) ∨ ∃ ds, d = .lst ds ∧ l = none ∧ u = none ∧ c = some (-1) ∧ t = (.lst ds.reverse, true) := by
  unfold stD at e5
  split at e5
  · split at e5
    · rename_i cc
      cases e5
      exact .inl ⟨_, _, rfl, rfl, cc, rfl⟩
    · cases e5
  · cases e5
    exact .inr ⟨_, rfl, rfl, rfl, rfl, rfl⟩
  · cases e5
def stM (m : M DB) (lo hi c : M (Option Int)) : M DB := do
  let t ← m
  let l ← lo
  let u ← hi
  let k ← c
  lift (stD t.1 l u k)
section
variable {X : Cx} {a se : Expr} {ma : M DB} {lo hi : Option Expr} {ml mh mc : M (Option Int)} {pos p2 : Pos}
theorem se_st (ha : SE X a ma) (hl : SO X lo ml) (hh : SO X hi mh) (hc : SO X (some se) mc) : SE X (.Subscript a (.Slice lo hi (some se) p2) pos) (stM ma ml mh mc) :=
  PE.weak (pe_st ha.d hl hh hc) fun σ H Q h => by
    obtain ⟨F, T, bx, s, r, t, s', e, k⟩ := h
    obtain ⟨d, s1, e1, e⟩ := bind_ok e
    obtain ⟨l, s2, e2, e⟩ := bind_ok e
    obtain ⟨u, s3, e3, e⟩ := bind_ok e
    obtain ⟨c, s4, e4, e⟩ := bind_ok e
    obtain ⟨e5, rfl⟩ := lift_ok e
    refine ⟨F, T, bx, s, r, d.1, s1, by rw [bind_run, e1]; rfl, fun v bx1 H1 x1 q1 => ⟨F, T, bx1, s1, x1.rel, l, s2, e2, fun bx2 H2 x2 => ⟨F, T, bx2, s2, x2.rel, u, s3, e3, fun bx3 H3 x3 => ⟨F, T, bx3, s3, x3.rel, c, s', e4, fun bx4 H4 x4 => ?_⟩⟩⟩⟩
    have q4 := x4.tr _ _ (x3.tr _ _ (x2.tr _ _ q1))
    have xx := ((x1.trans x2).trans x3).trans x4
    have fin : ∀ w H5, Grow H4 H5 → ResN X.K bx4 (Wf F s' σ T) H4 H5 t w → Q w H5 := fun w H5 g q => by
      obtain ⟨y, z⟩ := ResN.res x4.rel g q
      exact k w bx4 H5 (xx.trans y) z
    have key := stD_cases e5
    rcases key with ⟨ds, kk, hd, rfl, cc, rfl⟩ | ⟨ds, hd, rfl, rfl, rfl, rfl⟩
    · rw [hd] at q4
      obtain ⟨p, vs, rfl, h1, h2⟩ := q4.tup
      have hP := RepL.stP h2 l u kk
      exact .inl ⟨p, vs, kk, rfl, h1, rfl, cc.1, cc.2.1, by rw [← hP.length]; exact cc.2.2, fun q hq => fin _ _ (Grow.new hq) (ResN.newT hq hP)⟩
    · rw [hd] at q4
      obtain ⟨p, vs, rfl, h1, h2⟩ := q4.lst
      exact .inr ⟨p, vs, rfl, h1, rfl, rfl, rfl, fun q hq => fin _ _ (Grow.new hq) (ResN.newL hq h2.reverse)⟩
end
end L2.Pd
set_option maxHeartbeats 4000000
namespace L2.Pd
open PySem PySem.Spec PyProof.Rows
theorem RepO.dp {K : PySem.W.Frag} {bx : Bxs} {W : Wd} {H : Hp} {d : D} {v : V} {p : PyData} (h : RepO K bx W H d v) (e : d.py = some p) : Dp K H v p := by
  rcases h with h | ⟨a, xs, ds, o, e1, rfl, e3, h⟩
  · exact Rep.dp _ _ _ h e
  · rcases e1 with ⟨rfl, rfl⟩ | ⟨_, rfl, _⟩
    · simp only [D.py, Option.map_eq_some_iff] at e
      obtain ⟨ps, e1, rfl⟩ := e
      exact .lst (.inl (.inl e3)) (RepL.dp ds xs ps h e1)
    · simp only [D.py] at e; cases e
def P2O (K : PySem.W.Frag) (f : List D → Option DB) : R2 := fun x y H Q => ∃ (bx : Bxs) (W : Wd) (d1 d2 : D) (t : DB), RepO K bx W H d1 x ∧ RepO K bx W H d2 y ∧ f [d1, d2] = some t ∧ ∀ v H', Grow H H' → ResN K bx W H H' t v → Q v H'
def cmpL (f : List D → Option DB) (i : Nat) (mb : M DB) : M DB := do
  let _ ← peek i
  let y ← mb
  let d ← peek i
  lift (f [d, y.1])
def cmpR (f : List D → Option DB) (ma : M DB) (i : Nat) : M DB := do
  let x ← ma
  let d ← peek i
  lift (f [x.1, d])
def cmpLR (f : List D → Option DB) (i j : Nat) : M DB := do
  let d ← peek i
  let e ← peek j
  lift (f [d, e])
section
variable {X : Cx} {a b : Expr} {ma mb : M DB} {i j : Nat} {x y : Str} {p p2 pos : Pos}
theorem op_eqO (hu : X.A.units + 64 < cLine) : OpR X (compareOp .Eq) (P2O X.K eqD) := by
  intro pins s σ H x y v u Q I rx ry h
  obtain ⟨bx, W, d1, d2, t, h1, h2, e, k⟩ := h
  unfold eqD at e
  split at e
  · rename_i z1 z2 z
    cases z
    cases e
    rw [(h1.old (by intro _ z; cases z)).str] at rx
    rw [(h2.old (by intro _ z; cases z)).str] at ry
    have ed : decide (V.str z1 = V.str z2) = decide (z1 = z2) := by
      rw [Bool.eq_iff_iff]
      simp
    refine op_eq pins s σ H _ _ v u Q I rx ry ⟨rfl, ?_⟩
    rw [ed]
    exact k _ H Grow.refl (ResN.old Rep.mbl)
  · rename_i zq
    cases zq
    split at e
    · rename_i p q e1 e2
      split at e
      · rename_i c
        cases e
        have c' := Bool.and_eq_true_iff.mp c
        exact op_eqD hu pins s σ H _ _ v u Q I rx ry ⟨p, q, RepO.dp h1 e1, RepO.dp h2 e2, c'.1, c'.2, k _ H Grow.refl (ResN.old Rep.mbl)⟩
      · cases e
    · cases e
  · cases e
theorem op_neO (hu : X.A.units + 64 < cLine) : OpR X (compareOp .NotEq) (P2O X.K neD) := by
  intro pins s σ H x y v u Q I rx ry h
  obtain ⟨bx, W, d1, d2, t, h1, h2, e, k⟩ := h
  unfold neD at e
  split at e
  · rename_i z1 z2 z
    cases z
    cases e
    rw [(h1.old (by intro _ z; cases z)).str] at rx
    rw [(h2.old (by intro _ z; cases z)).str] at ry
    have ed : decide (V.str z1 = V.str z2) = decide (z1 = z2) := by
      rw [Bool.eq_iff_iff]
      simp
    refine op_ne pins s σ H _ _ v u Q I rx ry ⟨rfl, ?_⟩
    rw [ed]
    exact k _ H Grow.refl (ResN.old Rep.mbl)
  · rename_i zq
    cases zq
    split at e
    · rename_i p q e1 e2
      split at e
      · rename_i c
        cases e
        have c' := Bool.and_eq_true_iff.mp c
        exact op_neD hu pins s σ H _ _ v u Q I rx ry ⟨p, q, RepO.dp h1 e1, RepO.dp h2 e2, c'.1, c'.2, k _ H Grow.refl (ResN.old Rep.mbl)⟩
      · cases e
    · cases e
  · cases e
theorem op_inO (hu : X.A.units + 65 < cLine) : OpR X (compareOp .In) (P2O X.K inD) := by
  intro pins s σ H x y v u Q I rx ry h
  obtain ⟨bx, W, d1, d2, t, h1, h2, e, k⟩ := h
  unfold inD at e
  split at e
  · rename_i zq
    cases zq
    split at e
    · rename_i p q e1 e2
      split at e
      · rename_i c
        cases e
        have c' := Bool.and_eq_true_iff.mp c
        exact op_inD hu pins s σ H _ _ v u Q I rx ry ⟨p, q, RepO.dp h1 e1, RepO.dp h2 (by simp [D.py, e2]), c'.1, c'.2, k _ H Grow.refl (ResN.old Rep.mbl)⟩
      · cases e
    · cases e
  · rename_i zq
    cases zq
    split at e
    · rename_i p q e1 e2
      split at e
      · rename_i c
        cases e
        have c' := Bool.and_eq_true_iff.mp c
        exact op_inT hu pins s σ H _ _ v u Q I rx ry ⟨p, q, RepO.dp h1 e1, RepO.dp h2 (by simp [D.py, e2]), c'.1, c'.2, k _ H Grow.refl (ResN.old Rep.mbl)⟩
      · cases e
    · cases e
  · cases e
theorem op_notInO (hu : X.A.units + 65 < cLine) : OpR X (compareOp .NotIn) (P2O X.K notInD) := by
  intro pins s σ H x y v u Q I rx ry h
  obtain ⟨bx, W, d1, d2, t, h1, h2, e, k⟩ := h
  unfold notInD at e
  split at e
  · rename_i zq
    cases zq
    split at e
    · rename_i p q e1 e2
      split at e
      · rename_i c
        cases e
        have c' := Bool.and_eq_true_iff.mp c
        exact op_notInD hu pins s σ H _ _ v u Q I rx ry ⟨p, q, RepO.dp h1 e1, RepO.dp h2 (by simp [D.py, e2]), c'.1, c'.2, k _ H Grow.refl (ResN.old Rep.mbl)⟩
      · cases e
    · cases e
  · rename_i zq
    cases zq
    split at e
    · rename_i p q e1 e2
      split at e
      · rename_i c
        cases e
        have c' := Bool.and_eq_true_iff.mp c
        exact op_notInT hu pins s σ H _ _ v u Q I rx ry ⟨p, q, RepO.dp h1 e1, RepO.dp h2 (by simp [D.py, e2]), c'.1, c'.2, k _ H Grow.refl (ResN.old Rep.mbl)⟩
      · cases e
    · cases e
  · cases e
theorem rdL {σ : St} {H : Hp} {Q : VK} {f : List D → Option DB} (h : rdT X.K (cmpL f i mb) σ H Q) : ∃ v, σ[i]? = some (some v) ∧ rdD X.K (do let t ← mb; Pure.pure t.1) σ H fun y H2 => P2O X.K f v y H2 Q := by
  obtain ⟨F, T, bx, s, r, t, s', e, k⟩ := h
  obtain ⟨d0, s1, e1, f1⟩ := bind_ok e
  obtain ⟨rfl, b0, h0⟩ := peek_ok e1
  obtain ⟨w, s2, e2, f2⟩ := bind_ok f1
  obtain ⟨d, s3, e3, f3⟩ := bind_ok f2
  obtain ⟨rfl, b1, h1⟩ := peek_ok e3
  obtain ⟨e4, rfl⟩ := lift_ok f3
  obtain ⟨v, hσ, _⟩ := r.peek h0
  refine ⟨v, hσ, F, T, bx, s1, r, w.1, s', by rw [bind_run, e2]; rfl, fun u bx1 H1 x1 q1 => ?_⟩
  obtain ⟨v', hσ', hO⟩ := x1.rel.peek h1
  rw [hσ] at hσ'; cases hσ'
  refine ⟨bx1, _, d, w.1, t, hO, .inl q1, e4, fun v2 H2 g q => ?_⟩
  obtain ⟨y2, z⟩ := ResN.res x1.rel g q
  exact k v2 bx1 H2 (x1.trans y2) z
theorem rdR {σ : St} {H : Hp} {Q : VK} {f : List D → Option DB} (h : rdT X.K (cmpR f ma i) σ H Q) : rdD X.K (do let t ← ma; Pure.pure t.1) σ H fun x H1 => ∃ v, σ[i]? = some (some v) ∧ P2O X.K f x v H1 Q := by
  obtain ⟨F, T, bx, s, r, t, s', e, k⟩ := h
  obtain ⟨w, s2, e2, f2⟩ := bind_ok e
  obtain ⟨d, s3, e3, f3⟩ := bind_ok f2
  obtain ⟨rfl, b1, h1⟩ := peek_ok e3
  obtain ⟨e4, rfl⟩ := lift_ok f3
  refine ⟨F, T, bx, s, r, w.1, s', by rw [bind_run, e2]; rfl, fun u bx1 H1 x1 q1 => ?_⟩
  obtain ⟨v, hσ, hO⟩ := x1.rel.peek h1
  refine ⟨v, hσ, bx1, _, w.1, d, t, .inl q1, hO, e4, fun v2 H2 g q => ?_⟩
  obtain ⟨y2, z⟩ := ResN.res x1.rel g q
  exact k v2 bx1 H2 (x1.trans y2) z
theorem rdLR {σ : St} {H : Hp} {Q : VK} {f : List D → Option DB} (h : rdT X.K (cmpLR f i j) σ H Q) : ∃ v, σ[i]? = some (some v) ∧ ∃ u, σ[j]? = some (some u) ∧ P2O X.K f v u H Q := by
  obtain ⟨F, T, bx, s, r, t, s', e, k⟩ := h
  obtain ⟨d0, s1, e1, f1⟩ := bind_ok e
  obtain ⟨rfl, b0, h0⟩ := peek_ok e1
  obtain ⟨d, s3, e3, f3⟩ := bind_ok f1
  obtain ⟨rfl, b1, h1⟩ := peek_ok e3
  obtain ⟨e4, rfl⟩ := lift_ok f3
  obtain ⟨v, hσ, hO⟩ := r.peek h0
  obtain ⟨u, hσ2, hO2⟩ := r.peek h1
  refine ⟨v, hσ, u, hσ2, bx, _, d0, d, t, hO, hO2, e4, fun v2 H2 g q => ?_⟩
  obtain ⟨y2, z⟩ := ResN.res r g q
  exact k v2 bx H2 y2 z
theorem se_cmpL {op : CmpOp} {f : List D → Option DB} (i : Nat) (ho : OpR X (compareOp op) (P2O X.K f)) (hb : SE X b mb) (hm : behindInMarks op b = false) (hN : X.N[i]? = some x := by rfl) (hv : Vis X.env.scope x := by first | exact Or.inl rfl | exact Or.inr (Or.inl rfl) | exact Or.inr (Or.inr rfl)) (hd : (x == ("__debug__" : Str)) = false := by decide) (hcd : (x == ("__classdict__" : Str)) = false := by decide) : SE X (.Compare (.Name x p) [op] [b] pos) (cmpL f i mb) :=
  PE.weak (pe_cmpR ho (pe_var hN hv hd hcd) hb.d hm) fun _ _ _ h => rdL h
theorem se_cmpR {op : CmpOp} {f : List D → Option DB} (i : Nat) (ho : OpR X (compareOp op) (P2O X.K f)) (ha : SE X a ma) (hm : behindInMarks op (.Name x p) = false) (hN : X.N[i]? = some x := by rfl) (hv : Vis X.env.scope x := by first | exact Or.inl rfl | exact Or.inr (Or.inl rfl) | exact Or.inr (Or.inr rfl)) (hd : (x == ("__debug__" : Str)) = false := by decide) (hcd : (x == ("__classdict__" : Str)) = false := by decide) : SE X (.Compare a [op] [.Name x p] pos) (cmpR f ma i) :=
  PE.weak (pe_cmpR ho ha.d (pe_var hN hv hd hcd) hm) fun _ _ _ h => rdR h
theorem se_cmpLR {op : CmpOp} {f : List D → Option DB} (i j : Nat) (ho : OpR X (compareOp op) (P2O X.K f)) (hm : behindInMarks op (.Name y p2) = false) (hN : X.N[i]? = some x := by rfl) (hv : Vis X.env.scope x := by first | exact Or.inl rfl | exact Or.inr (Or.inl rfl) | exact Or.inr (Or.inr rfl)) (hd : (x == ("__debug__" : Str)) = false := by decide) (hcd : (x == ("__classdict__" : Str)) = false := by decide) (hN2 : X.N[j]? = some y := by rfl) (hv2 : Vis X.env.scope y := by first | exact Or.inl rfl | exact Or.inr (Or.inl rfl) | exact Or.inr (Or.inr rfl)) (hd2 : (y == ("__debug__" : Str)) = false := by decide) (hcd2 : (y == ("__classdict__" : Str)) = false := by decide) : SE X (.Compare (.Name x p) [op] [.Name y p2] pos) (cmpLR f i j) :=
  PE.weak (pe_cmpR ho (pe_var hN hv hd hcd) (pe_var hN2 hv2 hd2 hcd2) hm) fun _ _ _ h => rdLR h
theorem BlF.L {f : List D → Option DB} (hf : BlF f) : ∀ s t s', (cmpL f i mb) s = .ok t s' → ∃ k, t.1 = .bl k := fun s t s' e => by
  obtain ⟨_, s1, _, e⟩ := bind_ok e
  obtain ⟨_, s2, _, e⟩ := bind_ok e
  obtain ⟨_, s3, _, e⟩ := bind_ok e
  exact hf _ _ (lift_ok e).1
theorem BlF.R {f : List D → Option DB} (hf : BlF f) : ∀ s t s', (cmpR f ma i) s = .ok t s' → ∃ k, t.1 = .bl k := fun s t s' e => by
  obtain ⟨_, s2, _, e⟩ := bind_ok e
  obtain ⟨_, s3, _, e⟩ := bind_ok e
  exact hf _ _ (lift_ok e).1
theorem BlF.LR {f : List D → Option DB} (hf : BlF f) : ∀ s t s', (cmpLR f i j) s = .ok t s' → ∃ k, t.1 = .bl k := fun s t s' e => by
  obtain ⟨_, s2, _, e⟩ := bind_ok e
  obtain ⟨_, s3, _, e⟩ := bind_ok e
  exact hf _ _ (lift_ok e).1
theorem sb_cmpL {op : CmpOp} {f : List D → Option DB} (i : Nat) (ho : OpR X (compareOp op) (P2O X.K f)) (hf : BlF f) (hb : SE X b mb) (hm : behindInMarks op b = false) (hN : X.N[i]? = some x := by rfl) (hv : Vis X.env.scope x := by first | exact Or.inl rfl | exact Or.inr (Or.inl rfl) | exact Or.inr (Or.inr rfl)) (hd : (x == ("__debug__" : Str)) = false := by decide) (hcd : (x == ("__classdict__" : Str)) = false := by decide) : SB X (.Compare (.Name x p) [op] [b] pos) (tru (cmpL f i mb)) :=
  PT.weak (pt_cmpR ho (pe_var hN hv hd hcd) hb.d hm) fun _ _ _ h => rdL (rdB.test (BlF.L hf) h)
theorem sb_cmpR {op : CmpOp} {f : List D → Option DB} (i : Nat) (ho : OpR X (compareOp op) (P2O X.K f)) (hf : BlF f) (ha : SE X a ma) (hm : behindInMarks op (.Name x p) = false) (hN : X.N[i]? = some x := by rfl) (hv : Vis X.env.scope x := by first | exact Or.inl rfl | exact Or.inr (Or.inl rfl) | exact Or.inr (Or.inr rfl)) (hd : (x == ("__debug__" : Str)) = false := by decide) (hcd : (x == ("__classdict__" : Str)) = false := by decide) : SB X (.Compare a [op] [.Name x p] pos) (tru (cmpR f ma i)) :=
  PT.weak (pt_cmpR ho ha.d (pe_var hN hv hd hcd) hm) fun _ _ _ h => rdR (rdB.test (BlF.R hf) h)
theorem sb_cmpLR {op : CmpOp} {f : List D → Option DB} (i j : Nat) (ho : OpR X (compareOp op) (P2O X.K f)) (hf : BlF f) (hm : behindInMarks op (.Name y p2) = false) (hN : X.N[i]? = some x := by rfl) (hv : Vis X.env.scope x := by first | exact Or.inl rfl | exact Or.inr (Or.inl rfl) | exact Or.inr (Or.inr rfl)) (hd : (x == ("__debug__" : Str)) = false := by decide) (hcd : (x == ("__classdict__" : Str)) = false := by decide) (hN2 : X.N[j]? = some y := by rfl) (hv2 : Vis X.env.scope y := by first | exact Or.inl rfl | exact Or.inr (Or.inl rfl) | exact Or.inr (Or.inr rfl)) (hd2 : (y == ("__debug__" : Str)) = false := by decide) (hcd2 : (y == ("__classdict__" : Str)) = false := by decide) : SB X (.Compare (.Name x p) [op] [.Name y p2] pos) (tru (cmpLR f i j)) :=
  PT.weak (pt_cmpR ho (pe_var hN hv hd hcd) (pe_var hN2 hv2 hd2 hcd2) hm) fun _ _ _ h => rdLR (rdB.test (BlF.LR hf) h)
end
end L2.Pd
set_option maxHeartbeats 4000000
namespace L2.Pd
open PySem PySem.Spec PyProof.Rows
def lsetD : D → Option DB
  | .lst ds => (intsOf ds).bind fun ns => if ns.Nodup ∧ ns.length ≤ 4000 then some (.int (ns.length : Nat), false) else none
  | _ => none
def lsetM (m : M DB) : M DB := do
  let t ← m
  lift (lsetD t.1)
section
variable {X : Cx} {a : Expr} {ma : M DB} {p p2 q pos : Pos}
theorem se_lenSet (hc : X.calm = true) (hg : Gl X "len") (hm : X.mg "len" = none) (hg2 : Gl X "set") (hm2 : X.mg "set" = none) (ha : SE X a ma)
    (na : starEach [a] X.env = (false, eval a X.env) :: starEach [] X.env := by rfl) : SE X (.Call (.Name "len" p) [.Call (.Name "set" p2) [a] [] q] [] pos) (lsetM ma) :=
  PE.weak (RZ.pe_lenSetI hg hm hg2 hm2 ha.d hc na) fun σ H Q h => by
    obtain ⟨F, T, bx, s, r, t, s', e, k⟩ := h
    obtain ⟨d, s1, e1, e⟩ := bind_ok e
    obtain ⟨e2, rfl⟩ := lift_ok e
    refine ⟨F, T, bx, s, r, d.1, s', by rw [bind_run, e1]; rfl, fun v bx1 H1 x1 q1 => ?_⟩
    obtain ⟨dd, fr⟩ := d
    cases dd with
    | lst ds =>
      obtain ⟨ns, e3, e4⟩ := Option.bind_eq_some_iff.mp (show (intsOf ds).bind _ = some t from e2)
      split at e4
      · rename_i c
        cases e4
        obtain ⟨l, vs, rfl, h1, h2⟩ := q1.lst
        rw [intsOf_eq e3] at h2
        rw [h2.unints] at h1
        refine ⟨l, ns, rfl, h1, c.1, c.2, ?_⟩
        obtain ⟨y, z⟩ := ResN.res x1.rel Grow.refl (ResN.old (K := X.K) (bx := bx1) (W := Wf F s' σ T) (Rep.mint (i := (ns.length : Nat))))
        exact k _ bx1 H1 (x1.trans y) z
      · cases e4
    | _ => cases e2
end
end L2.Pd
set_option maxHeartbeats 4000000
namespace L2.Pd
open PySem PySem.Spec PyProof.Rows
def sortI (ns : List Int) : List Int := ns.mergeSort fun a b => decide (a ≤ b)
theorem sortI_perm (ns : List Int) : (sortI ns).Perm ns := List.mergeSort_perm ns _
theorem sortI_pw (ns : List Int) : (sortI ns).Pairwise (· ≤ ·) := by
  have h := List.pairwise_mergeSort (le := fun a b : Int => decide (a ≤ b)) (fun a b c h1 h2 => by
    have := of_decide_eq_true h1
    have := of_decide_eq_true h2
    exact decide_eq_true (by omega)) (fun a b => by
    simp
    omega) ns
  exact h.imp fun h => of_decide_eq_true h
theorem sortI_uniq {ns ns' : List Int} (h : ns'.Perm ns) (hp : ns'.Pairwise (· ≤ ·)) : ns' = sortI ns :=
  List.Perm.eq_of_pairwise (le := (· ≤ ·)) (fun a b _ _ h1 h2 => by omega) hp (sortI_pw ns) (h.trans (sortI_perm ns).symm)
def sortedD : List D → Option DB
  | [.lst ds] => (intsOf ds).bind fun ns => if ns.length < 64 then some (.lst ((sortI ns).map D.int), true) else none
  | _ => none
section
variable {X : Cx}
theorem call_sortedD : CallR X (.builtin "sorted") (Pu X.K sortedD) := by
  intro pins s σ H xs us Q I r h
  obtain ⟨bx, W, ds, t, q, e, k⟩ := h
  unfold sortedD at e
  split at e
  · obtain ⟨ns, e1, e2⟩ := Option.bind_eq_some_iff.mp e
    split at e2
    · rename_i c
      cases e2
      obtain ⟨v, vs, rfl, h1, h2⟩ := q.uncons
      rw [h2.unnil] at r
      obtain ⟨a, xs, rfl, q1, q2⟩ := h1.lst
      rw [intsOf_eq e1] at q2
      rw [q2.unints] at q1
      refine cr_sorted pins s σ H _ us Q I r ⟨a, ns, rfl, q1, c, fun ns' p hp hw hn => ?_⟩
      rw [sortI_uniq hp hw]
      exact k _ _ (Grow.new hn) (ResN.newL hn (RepL.ints _))
    · cases e2
  · cases e
def cntD : D → D → Option DB
  | .lst ds, .int k => (intsOf ds).map fun ns => (.int (ns.count k : Nat), false)
  | _, _ => none
def isLD : D → Option DB
  | .lst _ => some (.non, false)
  | _ => none
/-- x.count(e), x a local list, looked at -/
def cntM (i : Nat) (ma : M DB) : M DB := do
  let d0 ← peek i
  let _ ← lift (isLD d0)
  let y ← ma
  let d ← peek i
  lift (cntD d y.1)
variable {a : Expr} {ma : M DB} {x : Str} {p apos cpos : Pos}
theorem se_cnt (i : Nat) (ha : SE X a ma) (hN : X.N[i]? = some x := by rfl) (hv : Vis X.env.scope x := by first | exact Or.inl rfl | exact Or.inr (Or.inl rfl) | exact Or.inr (Or.inr rfl)) (hd : (x == ("__debug__" : Str)) = false := by decide)
    (hcd : (x == ("__classdict__" : Str)) = false := by decide)
    (hbase : attributeBase (.Name x p) "count" X.env (eval (.Name x p) X.env) = eval (.Name x p) X.env := by rfl)
    (hfew : ((backTo cpos (starEach [a] X.env)).all (fun x => !x.1) && (backToKw cpos (keywordEach [] X.env)).all (fun x => x.1.isSome)
      && decide ([a].length + ([] : List Keyword).length + (if ([] : List Keyword).isEmpty then 0 else 1) < 30)) = true := by rfl)
    (hline : (apos.endLine == cpos.line) = true := by rfl) (hs : starEach [a] X.env = (false, eval a X.env) :: starEach [] X.env := by rfl) (hplain : (backTo cpos (starEach [] X.env)).any (·.1) = false := by rfl) :
    SE X (.Call (.Attribute (.Name x p) "count" apos) [a] [] cpos) (cntM i ma) :=
  PE.weak (pe_bm PySem.F.plainAttrs_list PySem.F.slot_list_count PySem.F.type_list_count mt_lcount (pe_var hN hv hd hcd) (pa_cons ha.d pa_nil hs) hbase hfew hline hs hplain) fun σ H Q h => by
    obtain ⟨F, T, bx, s, r, t, s', e, k⟩ := h
    obtain ⟨d0, s1, e1, f1⟩ := bind_ok e
    obtain ⟨rfl, b0, h0⟩ := peek_ok e1
    obtain ⟨_, s2, e2, f2⟩ := bind_ok f1
    obtain ⟨e3, rfl⟩ := lift_ok e2
    obtain ⟨w, s3, e4, f3⟩ := bind_ok f2
    obtain ⟨d, s4, e5, f4⟩ := bind_ok f3
    obtain ⟨rfl, b1, h1⟩ := peek_ok e5
    obtain ⟨e6, rfl⟩ := lift_ok f4
    obtain ⟨v, hσ, hO⟩ := r.peek h0
    unfold isLD at e3
    split at e3
    · obtain ⟨l, xs, rfl, hq, _⟩ := hO.lst
      refine ⟨.ref l, hσ, .inl ⟨rfl, xs, hq⟩, F, T, bx, _, r, w.1, _, by rw [bind_run, e4]; rfl, fun u bx1 H1 x1 q1 => ?_⟩
      obtain ⟨v', hσ', hO1⟩ := x1.rel.peek h1
      rw [hσ] at hσ'; cases hσ'
      unfold cntD at e6
      split at e6
      · rename_i ds j hj
        obtain ⟨ns, e7, rfl⟩ := Option.map_eq_some_iff.mp e6
        obtain ⟨l', xs', el, hq', hR⟩ := hO1.lst
        cases el
        rw [intsOf_eq e7] at hR
        rw [hR.unints] at hq'
        rw [hj] at q1
        refine ⟨l, ns, j, rfl, by rw [q1.int], hq', ?_⟩
        obtain ⟨y2, z⟩ := ResN.res x1.rel Grow.refl (ResN.old (K := X.K) (bx := bx1) (W := Wf F _ σ T) (Rep.mint (i := (ns.count j : Nat))))
        exact k _ bx1 H1 (x1.trans y2) z
      · cases e6
    · cases e3
end
end L2.Pd
set_option maxHeartbeats 4000000
namespace L2.Pd
open PySem PySem.Spec PyProof.Rows
def extM (i : Nat) (m : M DB) : M DB := onOwn i do
  let t ← m
  fun s => match ownAt s i, t with
    | some ds, (.lst es, true) => if ds.length + es.length ≤ sizeLine then .ok (.non, false) (putO s i (ds ++ es)) else .no
    | _, _ => .no
section
variable {X : Cx} {a : Expr} {ma : M DB} {x : Str} {p apos cpos : Pos}
theorem se_ext (i : Nat) (ha : SE X a ma) (hN : X.N[i]? = some x := by rfl) (hv : Vis X.env.scope x := by first | exact Or.inl rfl | exact Or.inr (Or.inl rfl) | exact Or.inr (Or.inr rfl)) (hd : (x == ("__debug__" : Str)) = false := by decide)
    (hcd : (x == ("__classdict__" : Str)) = false := by decide)
    (hbase : attributeBase (.Name x p) "extend" X.env (eval (.Name x p) X.env) = eval (.Name x p) X.env := by rfl)
    (hfew : ((backTo cpos (starEach [a] X.env)).all (fun x => !x.1) && (backToKw cpos (keywordEach [] X.env)).all (fun x => x.1.isSome)
      && decide ([a].length + ([] : List Keyword).length + (if ([] : List Keyword).isEmpty then 0 else 1) < 30)) = true := by rfl)
    (hline : (apos.endLine == cpos.line) = true := by rfl) (hs : starEach [a] X.env = (false, eval a X.env) :: starEach [] X.env := by rfl) (hplain : (backTo cpos (starEach [] X.env)).any (·.1) = false := by rfl) :
    SE X (.Call (.Attribute (.Name x p) "extend" apos) [a] [] cpos) (extM i ma) :=
  PE.weak (pe_bm PySem.F.plainAttrs_list PySem.F.slot_list_extend PySem.F.type_list_extend mt_extend (pe_var hN hv hd hcd) (pa_cons ha pa_nil hs) hbase hfew hline hs hplain) fun σ H Q h => by
    obtain ⟨F, T, bx, s, r, t, s', e, k⟩ := h
    obtain ⟨⟨ds0, h0⟩, e⟩ := onOwn_ok e
    obtain ⟨u, s1, e1, f1⟩ := bind_ok e
    obtain ⟨l, xs0, hσ, hH, _⟩ := r.own h0
    refine ⟨.ref l, hσ, .inl ⟨rfl, xs0, .inl (.inl hH)⟩, F, T, bx, s, r, u, s1, e1, fun v bx1 H1 x1 q1 => ?_⟩
    split at f1
    · rename_i ds es hds
      split at f1
      · rename_i c
        cases f1
        obtain ⟨b, ys, ds2, o2, e2, rfl, hB, hR2, _, _⟩ := q1
        obtain ⟨rfl, rfl⟩ : es = ds2 ∧ o2 = .lst ys := by
          rcases e2 with ⟨e2, rfl⟩ | ⟨_, e2, _⟩
          · have e2 : D.lst es = .lst ds2 := e2
            cases e2; exact ⟨rfl, rfl⟩
          · have e2 : D.lst es = .dct _ ds2 := e2
            cases e2
        have x1' := x1.drop
        obtain ⟨l', xs, hσ', hH', hR⟩ := x1'.rel.own hds
        rw [hσ] at hσ'; cases hσ'
        have hR2' := hR2.less (W' := Wf F s1 σ T) fun _ => Wf.sub fun _ => List.mem_cons_of_mem _
        have x2 := x1'.rel.mut hds hσ hH' (hR.append hR2')
        exact ⟨l, b, xs, ys, rfl, rfl, hH', hB, by rw [← hR.length, ← hR2.length]; exact c, k .non bx1 _ (x1'.trans x2) (Res.old Rep.mnon)⟩
      · cases f1
    · cases f1
end
end L2.Pd
set_option maxHeartbeats 4000000
namespace L2.Pd
open PySem PySem.Spec PyProof.Rows
theorem reads_intsP (h : Heap) : ∀ {vs : List Value} {xs : List Int}, IntsAre vs xs → ReadsAll h vs (xs.map PyData.int) []
  | _, _, .nil => .nil
  | _, _, .cons n t r => .cons (.int n t) (reads_intsP h r)
theorem depth_intsP : ∀ xs : List Int, PyData.depthAll (xs.map PyData.int) = 0
  | [] => rfl
  | n :: xs => by
    show max 0 (PyData.depthAll (xs.map PyData.int)) = 0
    rw [depth_intsP xs]
    rfl
theorem alike_intsP (xs : List Int) : PySem.W.AlikeAll (xs.map PyData.int) := by
  refine ⟨fun x hx y hy => ?_, fun x hx => ?_⟩
  · obtain ⟨a, _, rfl⟩ := List.mem_map.mp hx
    obtain ⟨b, _, rfl⟩ := List.mem_map.mp hy
    rfl
  · obtain ⟨a, _, rfl⟩ := List.mem_map.mp hx
    exact fun z => by cases z
section
variable {X : Cx}
def rMinDf (K : PySem.W.Frag) : List V → List V → Hp → VK → Prop := fun xs zs H Q => ∃ (a : Addr) (ns : List Int) (z : V), xs = [.ref a] ∧ zs = [z] ∧ SqL K H a (ns.map V.int) ∧ (ns = [] → Q z H) ∧ ∀ m, ns.min? = some m → Q (.int m) H
theorem cr_minDf (hc : X.calm = true) (hu : X.A.units + 64 < cLine) : CallRK X (.builtin "min") [Str.ofString "default"] (rMinDf X.K) := by
  intro pins s σ H xs zs us ws Q I r rz h
  obtain ⟨a, ns, z, rfl, rfl, hs, q0, q1⟩ := h
  obtain ⟨its, rv, hl, _⟩ := I.list hs
  obtain rfl := Vals.ref1 r
  obtain ⟨w1, rfl, e1⟩ := vals1 rz
  have hi := rv.ints
  refine PySem.W.min_list_default (I.ok.hd hc) hl.isList (reads_intsP _ hi) (alike_intsP ns) (by rw [depth_intsP]; omega) (fun e h' tk hk => ?_) (fun y ys i v h' tk bs e hv rd hk => ?_)
  · have e : ns = [] := List.map_eq_nil_iff.mp e
    exact ⟨z, H, I.kept hk, e1, q0 e⟩
  · cases ns with
    | nil => cases e
    | cons n ns =>
      cases e
      rw [PySem.W.minD_ints] at rd
      cases rd with
      | int _ t =>
        refine ⟨.int _, H, I.kept hk, ⟨_, rfl⟩, q1 _ ?_⟩
        rw [List.min?_cons']
def minDfD : D → D → Option DB
  | .lst ds, z => (intsOf ds).map fun ns => match ns.min? with
    | none => (z, false)
    | some m => (.int m, false)
  | _, _ => none
/-- min(e, default=e') of ints -/
def minDfM (ma mz : M DB) : M DB := do
  let t ← ma
  let z ← mz
  lift (minDfD t.1 z.1)
variable {a z : Expr} {ma mz : M DB} {p pos kpos : Pos}
theorem se_minDf {nm : Option Str} (hc : X.calm = true) (hu : X.A.units + 64 < cLine) (hg : Gl X "min") (hm : X.mg "min" = none) (ha : SE X a ma) (hz : SE X z mz) (hs : starEach [a] X.env = (false, eval a X.env) :: starEach [] X.env := by rfl)
    (he : backTo pos (starEach [a] X.env) = (false, eval a X.env) :: backTo pos (starEach [] X.env) := by rfl) (hpl : (backTo pos (starEach [a] X.env)).any (·.1) = false := by rfl)
    (hall : (backToKw pos (keywordEach [⟨nm, z, kpos⟩] X.env)).all (·.1.isSome) = true := by rfl) (hnone : (backToKw pos (keywordEach [⟨nm, z, kpos⟩] X.env)).any (·.1.isNone) = false := by rfl) (hks : (backToKw pos (keywordEach [⟨nm, z, kpos⟩] X.env)).filterMap (·.1) = [Str.ofString "default"] := by rfl) :
    SE X (.Call (.Name "min" p) [a] [⟨nm, z, kpos⟩] pos) (minDfM ma mz) :=
  PE.weak (pe_callBK (cr_minDf hc hu) hg hm (by first | rfl | decide +kernel) (pa_cons ha.d pa_nil hs) (pk_cons hz.d pk_nil) (by decide) (by decide) he hpl hall hnone hks) fun σ H Q h => by
    obtain ⟨F, T, bx, s, r, t, s', e, k⟩ := h
    obtain ⟨u, s1, e1, f1⟩ := bind_ok e
    obtain ⟨w, s2, e2, f2⟩ := bind_ok f1
    obtain ⟨e3, rfl⟩ := lift_ok f2
    refine ⟨F, T, bx, s, r, u.1, s1, by rw [bind_run, e1]; rfl, fun v bx1 H1 x1 q1 => ⟨F, T, bx1, s1, x1.rel, w.1, _, by rw [bind_run, e2]; rfl, fun y bx2 H2 x2 q2 => ?_⟩⟩
    have q1 := x2.tr _ _ q1
    have x12 := x1.trans x2
    unfold minDfD at e3
    split at e3
    · rename_i ds zz hds
      obtain ⟨ns, e4, rfl⟩ := Option.map_eq_some_iff.mp e3
      rw [hds] at q1
      obtain ⟨l, vs, rfl, h1, h2⟩ := q1.lst
      rw [intsOf_eq e4] at h2
      rw [h2.unints] at h1
      refine ⟨l, ns, y, rfl, rfl, h1, fun en => ?_, fun m em => ?_⟩
      · subst en
        obtain ⟨y2, z2⟩ := ResN.res x12.rel Grow.refl (ResN.old (K := X.K) (bx := bx2) (W := Wf F _ σ T) q2)
        exact k _ bx2 H2 (x12.trans y2) z2
      · obtain ⟨y2, z2⟩ := ResN.res x12.rel Grow.refl (ResN.old (K := X.K) (bx := bx2) (W := Wf F _ σ T) (Rep.mint (i := m)))
        rw [em] at k
        exact k _ bx2 H2 (x12.trans y2) z2
    · cases e3
end
end L2.Pd
set_option maxHeartbeats 4000000
namespace L2.Pd
open PySem PySem.Spec PyProof.Rows
/-- x[e] as a target -/
def gix (i : Nat) (mb : M DB) (d : D) : M Unit := onOwn i do
  let y ← mb
  fun s => match ownAt s i, y.1 with
    | some ds, .int j => match ixN ds.length j with
      | some k => .ok () (putO s i (ds.set k d))
      | none => .no
    | _, _ => .no
section
variable {X : Cx} {b : Expr} {mb : M DB} {x : Str} {p pos : Pos}
theorem sg_ix (i : Nat) (hb : SE X b mb) (hN : X.N[i]? = some x := by rfl) (hv : Vis X.env.scope x := by first | exact Or.inl rfl | exact Or.inr (Or.inl rfl) | exact Or.inr (Or.inr rfl)) (hd : (x == ("__debug__" : Str)) = false := by decide)
    (hcd : (x == ("__classdict__" : Str)) = false := by decide)
    (hq : ∀ v, assign (.Subscript (.Name x p) b pos) X.env v = (do
      let ov ← holding [v] (eval (.Name x p) X.env)
      let iv ← holding [v, ov] (eval b X.env)
      standAt pos
      holding [v, ov, iv] (setItem ov iv v)
      release [v, ov, iv] []) := by intro _; rfl) : SG X (.Subscript (.Name x p) b pos) (gix i mb) [] :=
  PG.weak (pg_sub (pe_var hN hv hd hcd) hb.d set_list hq) fun v σ H Q h => by
    obtain ⟨F, T, bx, s, d, r, q, s', e, k⟩ := h
    obtain ⟨⟨ds0, h0⟩, e⟩ := onOwn_ok e
    obtain ⟨y, s1, e1, e⟩ := bind_ok e
    obtain ⟨l, xs0, hσ, hH, _⟩ := r.own h0
    refine ⟨.ref l, hσ, F, T, bx, s, r, y.1, s1, by rw [bind_run, e1]; rfl, fun u bx1 H1 x1 q1 => ?_⟩
    split at e
    · rename_i ds j hds hy
      split at e
      · rename_i kk hk
        cases e
        rw [hy] at q1
        obtain ⟨l', xs, hσ', hH', hR⟩ := x1.rel.own hds
        rw [hσ] at hσ'; cases hσ'
        have q' := x1.tr _ _ q
        have x2 := x1.rel.mut hds hσ hH' (hR.set kk q')
        exact ⟨l, xs, j, kk, rfl, q1.int, hH', by rw [← hR.length]; exact hk, k bx1 _ _ (x1.trans x2) (fun _ _ => rfl) rfl⟩
      · cases e
    · cases e
end
end L2.Pd
set_option maxHeartbeats 4000000
namespace L2.Pd
open PySem PySem.Spec PyProof.Rows
def lc2L (g : D → M Unit) (tt : M Bool) (mi1 : M (List D)) (g1 : D → M Unit) (tt1 : M Bool) (te : M DB) (vs vs1 : List Nat) : List D → M (List D)
  | [] => pure []
  | d :: ds => do
    wipeM vs
    g d
    let b ← tt
    if b then (do
      let es ← mi1
      let r1 ← lcL g1 tt1 te vs1 es
      let r ← lc2L g tt mi1 g1 tt1 te vs vs1 ds
      pure (r1 ++ r)) else lc2L g tt mi1 g1 tt1 te vs vs1 ds
def lc2M (mi : M (List D)) (g : D → M Unit) (tt : M Bool) (mi1 : M (List D)) (g1 : D → M Unit) (tt1 : M Bool) (te : M DB) (vs vs1 : List Nat) : M DB := do
  let ds ← mi
  fun s => if freeE s.env vs then (match lc2L g tt mi1 g1 tt1 te vs vs1 ds s with
    | .ok r s2 => if r.length ≤ sizeLine then .ok (.lst r, true) { s2 with env := restE s.env s2.env vs } else .no
    | .ex e s2 => .ex e s2
    | .no => .no) else .no
theorem wipeE_out {e : Ev} {i : Nat} : ∀ {vs : List Nat}, i ∉ vs → (wipeE e vs)[i]? = e[i]?
  | [], _ => rfl
  | v :: vs, h => by
    unfold wipeE
    rw [List.getElem?_set_ne (fun z => h (by rw [z]; exact List.mem_cons_self))]
    exact wipeE_out fun z => h (List.mem_cons_of_mem _ z)
theorem wipeE_in {e : Ev} {i : Nat} (hi : i < e.length) : ∀ {vs : List Nat}, i ∈ vs → (wipeE e vs)[i]? = some none
  | [], h => by cases h
  | v :: vs, h => by
    unfold wipeE
    by_cases z : i = v
    · subst z
      rw [List.getElem?_set_self (by rw [wipeE_len]; exact hi)]
    · rw [List.getElem?_set_ne (Ne.symm z)]
      exact wipeE_in hi ((List.mem_cons.mp h).elim (fun y => absurd y z) id)
theorem wipeE_sub {e : Ev} {vs vs1 : List Nat} (h : ∀ j ∈ vs1, j ∈ vs) : wipeE (wipeE e vs1) vs = wipeE e vs := by
  refine List.ext_getElem? fun j => ?_
  by_cases hj : j ∈ vs
  · by_cases hlt : j < e.length
    · rw [wipeE_in hlt hj, wipeE_in (by rw [wipeE_len]; exact hlt) hj]
    · rw [List.getElem?_eq_none (by rw [wipeE_len, wipeE_len]; omega), List.getElem?_eq_none (by rw [wipeE_len]; omega)]
  · rw [wipeE_out hj, wipeE_out hj, wipeE_out fun z => hj (h j z)]
/-- what holds between two turns of the inner for -/
structure LcJ (K : PySem.W.Frag) (F : Fm) (T : List Addr) (bx1 : Bxs) (s1 : S) (σ : St) (H1 : Hp) (bx4 : Bxs) (s4 : S) (σ2 : St) (H4 : Hp) (vs1 : List Nat) (D : Addr) (bx : Bxs) (s : S) (H : Hp) (acc : List V) (accD : List Pd.D) : Prop where
  rel : Rel K F bx (D :: T) { s with env := wipeE s.env vs1 } (wipe σ2 vs1) H
  at_ : H D = some (.lst acc)
  rep : RepL K bx (Wf F { s with env := wipeE s.env vs1 } (wipe σ2 vs1) (D :: T)) H accD acc
  tr : ∀ d v, Rep K bx1 (Wf F s1 σ T) H1 d v → Rep K bx (Wf F { s with env := wipeE s.env vs1 } (wipe σ2 vs1) (D :: T)) H d v
  tr4 : ∀ d v, Rep K bx4 (Wf F s4 σ2 (D :: T)) H4 d v → Rep K bx (Wf F { s with env := wipeE s.env vs1 } (wipe σ2 vs1) (D :: T)) H d v
  tk : ∀ a, H a = none → H1 a = none
  pre : ∀ (n : Nat) (a : Addr), bx1[n]? = some a → bx[n]? = some a
  kt : ∀ a ∈ T, ∀ o, H1 a = some o → H a = some o
  len : s.env.length = σ2.length
theorem rdT.lc2 {K : PySem.W.Frag} {mi mi1 : M (List D)} {g g1 : D → M Unit} {tt tt1 : M Bool} {te : M DB} {vs ws vs1 ws1 : List Nat} {σ : St} {H : Hp} {Q : VK} (hws : ∀ j ∈ ws, j ∈ vs) (hws1 : ∀ j ∈ ws1, j ∈ vs1) (hv1 : ∀ j ∈ vs1, j ∈ vs)
    (h : rdT K (lc2M mi g tt mi1 g1 tt1 te vs vs1) σ H Q) :
    tLc2 (rdI K mi) (rdG K g ws) (rdB K tt) (rdI K mi1) (rdG K g1 ws1) (rdB K tt1) (rdT K te) vs vs1 σ H Q := by
  obtain ⟨F, T, bx, s, r, t, s', e, k⟩ := h
  obtain ⟨ds, s1, e1, e⟩ := bind_ok e
  split at e
  · rename_i fr
    cases q : lc2L g tt mi1 g1 tt1 te vs vs1 ds s1 with
    | ex _ _ => rw [q] at e; cases e
    | no => rw [q] at e; cases e
    | ok res s2 =>
      rw [q] at e
      have e : (if res.length ≤ sizeLine then R.ok (Pd.D.lst res, true) { s2 with env := restE s1.env s2.env vs } else R.no) = R.ok t s' := e
      split at e
      · rename_i hz
        cases e
        refine ⟨F, T, bx, s, r, ds, s1, e1, fun J bx1 H1 x1 y D hD => ?_⟩
        have hDT : D ∉ T := fun z => by
          obtain ⟨_, _, _, xs, p, _⟩ := x1.rel.tmp D z
          rw [hD] at p; cases p
        have g0 : Rel K F bx1 (D :: T) s1 σ (upd H1 D (.lst [])) := x1.rel.grow (Grow.new hD) fun a ha => (List.mem_cons.mp ha).elim (fun z => .inr (by subst z; exact ⟨hD, _, upd_same, .lst⟩)) .inl
        have I0 : LcI K F T bx1 s1 σ H1 vs D bx1 s1 (upd H1 D (.lst [])) [] [] := by
          refine ⟨g0.wipe vs, upd_same, .nil, fun d v h => ?_, fun a h => (Grow.new hD).none h, fun _ _ h => h, fun a ha o h => Grow.new hD a o h, x1.rel.len⟩
          refine Rep.less wf_wipe (h.grow (Grow.new hD) fun a z => ?_)
          rcases z with z | z | z
          · exact .inl (.inl z)
          · exact .inl (.inr (.inl z))
          · exact (List.mem_cons.mp z).elim (fun z => .inr (by rw [z]; exact hD)) fun z => .inl (.inr (.inr z))
        refine ⟨fun i m Hi => i ≤ ds.length ∧ m = ds.length - i ∧ ∃ bxi si acc accD ri, LcI K F T bx1 s1 σ H1 vs D bxi si Hi acc accD ∧ lc2L g tt mi1 g1 tt1 te vs vs1 (ds.drop i) si = .ok ri s2 ∧ accD ++ ri = res, ⟨ds.length, Nat.zero_le _, by simp, bx1, s1, [], [], res, I0, by simpa using q, rfl⟩, ?_⟩
        rintro i m Hi ⟨hi, rfl, bxi, si, acc, accD, ri, I, ei, er⟩
        obtain ⟨yg, ys⟩ := y bxi _ Hi I.tr I.rel.fz
        by_cases hlt : i < ds.length
        · obtain ⟨yg1, yg2⟩ := yg i hlt
          refine .inr ⟨yg1, fun H' => ∃ bx' s3 acc' accD' r', LcI K F T bx1 s1 σ H1 vs D bx' s3 H' acc' accD' ∧ lc2L g tt mi1 g1 tt1 te vs vs1 (ds.drop (i + 1)) s3 = .ok r' s2 ∧ accD' ++ r' = res, fun H' ⟨bx', s3, acc', accD', r', I', e', er'⟩ => ⟨ds.length - (i + 1), by omega, hlt, rfl, bx', s3, acc', accD', r', I', e', er'⟩, fun x H' hy => ?_⟩
          obtain ⟨gr, rep⟩ := yg2 x H' hy
          have rp := rep _ (List.getElem?_eq_getElem hlt)
          rw [List.drop_eq_getElem_cons hlt] at ei
          obtain ⟨_, sw, ew, ei⟩ := bind_ok (m := wipeM vs) ei
          cases ew
          obtain ⟨_, sg, eg, ei⟩ := bind_ok (m := g ds[i]) ei
          obtain ⟨b, sb, eb, ei⟩ := bind_ok (m := tt) ei
          have xg : Stp K F (D :: T) bxi { si with env := wipeE si.env vs } (wipe σ vs) Hi bxi (D :: T) { si with env := wipeE si.env vs } (wipe σ vs) H' := Stp.grow I.rel gr (fun _ z => .inl z) (fun _ z => z)
          refine ⟨F, D :: T, bxi, _, ds[i], xg.rel, rp, sg, eg, fun bx2 σ2 H2 x2 hσ hl2 => ?_⟩
          have hw : wipe σ2 vs = wipe σ vs := by
            rw [← wipe_wipe (σ := σ)]
            exact wipe_eq hl2 fun j hj => hσ j fun z => hj (hws j z)
          have xx := xg.trans x2
          have fin : ∀ {bx3 : Bxs} {s3 : S} {H3 : Hp}, Stp K F (D :: T) bxi { si with env := wipeE si.env vs } (wipe σ vs) Hi bx3 (D :: T) s3 σ2 H3 → LcI K F T bx1 s1 σ H1 vs D bx3 s3 H3 acc accD := fun {bx3 s3 H3} x3 => by
            have rw3 := x3.rel.wipe vs
            rw [hw] at rw3
            have wf3 : ∀ b, Wf F { s3 with env := wipeE s3.env vs } (wipe σ vs) (D :: T) b → Wf F s3 σ2 (D :: T) b := by rw [← hw]; exact wf_wipe
            refine ⟨rw3, x3.kt D List.mem_cons_self _ I.at_, (x3.trL _ _ I.rep).less wf3, fun d v h => (x3.tr d v (I.tr d v h)).less wf3, fun a h => I.tk a (x3.tk a h), fun n a h => x3.pre n a (I.pre n a h), fun a ha o h => x3.kt a (List.mem_cons_of_mem _ ha) o (I.kt a ha o h), ?_⟩
            rw [x3.rel.len, hl2, wipe_length]
          refine ⟨hw, F, D :: T, bx2, sg, x2.rel, b, sb, eb, fun bx3 H3 x3 => ?_⟩
          have x3' := xx.trans x3
          cases b with
          | false =>
            refine iteF ?_
            exact ⟨bx3, sb, acc, accD, ri, fin x3', ei, er⟩
          | true =>
            refine iteT ?_
            obtain ⟨es, s4, e4, ei⟩ := bind_ok (m := mi1) ei
            obtain ⟨r1, s5, e5, ei⟩ := bind_ok (m := lcL g1 tt1 te vs1 es) ei
            obtain ⟨r', s6, e6, ei⟩ := bind_ok (m := lc2L g tt mi1 g1 tt1 te vs vs1 _) ei
            cases ei
            refine ⟨F, D :: T, bx3, sb, x3.rel, es, s4, e4, fun J1 bx4 H4 x4 y1 => ?_⟩
            have x4' := x3'.trans x4
            have L0 : LcJ K F T bx1 s1 σ H1 bx4 s4 σ2 H4 vs1 D bx4 s4 H4 acc accD := by
              refine ⟨x4'.rel.wipe vs1, x4'.kt D List.mem_cons_self _ I.at_, (x4'.trL _ _ I.rep).less wf_wipe, fun d v h => (x4'.tr d v (I.tr d v h)).less wf_wipe, fun d v h => h.less wf_wipe, fun a h => I.tk a (x4'.tk a h), fun n a h => x4'.pre n a (I.pre n a h), fun a ha o h => x4'.kt a (List.mem_cons_of_mem _ ha) o (I.kt a ha o h), ?_⟩
              exact x4'.rel.len
            refine ⟨fun j k Hj => j ≤ es.length ∧ k = es.length - j ∧ ∃ bxj sj accj accDj rj, LcJ K F T bx1 s1 σ H1 bx4 s4 σ2 H4 vs1 D bxj sj Hj accj accDj ∧ lcL g1 tt1 te vs1 (es.drop j) sj = .ok rj s5 ∧ accDj ++ rj = accD ++ r1, ⟨es.length, Nat.zero_le _, by simp, bx4, s4, acc, accD, r1, L0, by simpa using e5, rfl⟩, ?_⟩
            rintro j m Hj ⟨hj, rfl, bxj, sj, accj, accDj, rj, L, ej, erj⟩
            obtain ⟨zg, zs⟩ := y1 bxj _ Hj L.tr4 L.rel.fz
            by_cases hlj : j < es.length
            · obtain ⟨zg1, zg2⟩ := zg j hlj
              refine .inr ⟨zg1, fun H' => ∃ bx' s3 acc' accD' r', LcJ K F T bx1 s1 σ H1 bx4 s4 σ2 H4 vs1 D bx' s3 H' acc' accD' ∧ lcL g1 tt1 te vs1 (es.drop (j + 1)) s3 = .ok r' s5 ∧ accD' ++ r' = accD ++ r1, fun H' ⟨bx', s3, acc', accD', r', I', e', er'⟩ => ⟨es.length - (j + 1), by omega, hlj, rfl, bx', s3, acc', accD', r', I', e', er'⟩, fun x H' hy => ?_⟩
              obtain ⟨gr, rep⟩ := zg2 x H' hy
              have rp := rep _ (List.getElem?_eq_getElem hlj)
              rw [List.drop_eq_getElem_cons hlj] at ej
              obtain ⟨_, sw, ew, ej⟩ := bind_ok (m := wipeM vs1) ej
              cases ew
              obtain ⟨_, sg1, eg1, ej⟩ := bind_ok (m := g1 es[j]) ej
              obtain ⟨b1, sb1, eb1, ej⟩ := bind_ok (m := tt1) ej
              have xg1 : Stp K F (D :: T) bxj { sj with env := wipeE sj.env vs1 } (wipe σ2 vs1) Hj bxj (D :: T) { sj with env := wipeE sj.env vs1 } (wipe σ2 vs1) H' := Stp.grow L.rel gr (fun _ z => .inl z) (fun _ z => z)
              refine ⟨F, D :: T, bxj, _, es[j], xg1.rel, rp, sg1, eg1, fun bx5 σ3 H5 x5 hσ3 hl3 => ?_⟩
              have hw1 : wipe σ3 vs1 = wipe σ2 vs1 := by
                rw [← wipe_wipe (σ := σ2)]
                exact wipe_eq hl3 fun j hj => hσ3 j fun z => hj (hws1 j z)
              have xx1 := xg1.trans x5
              have fin1 : ∀ {bx3 : Bxs} {s3 : S} {H3 : Hp}, Stp K F (D :: T) bxj { sj with env := wipeE sj.env vs1 } (wipe σ2 vs1) Hj bx3 (D :: T) s3 σ3 H3 → LcJ K F T bx1 s1 σ H1 bx4 s4 σ2 H4 vs1 D bx3 s3 H3 accj accDj := fun {bx3 s3 H3} x3 => by
                have rw3 := x3.rel.wipe vs1
                rw [hw1] at rw3
                have wf3 : ∀ b, Wf F { s3 with env := wipeE s3.env vs1 } (wipe σ2 vs1) (D :: T) b → Wf F s3 σ3 (D :: T) b := by rw [← hw1]; exact wf_wipe
                refine ⟨rw3, x3.kt D List.mem_cons_self _ L.at_, (x3.trL _ _ L.rep).less wf3, fun d v h => (x3.tr d v (L.tr d v h)).less wf3, fun d v h => (x3.tr d v (L.tr4 d v h)).less wf3, fun a h => L.tk a (x3.tk a h), fun n a h => x3.pre n a (L.pre n a h), fun a ha o h => x3.kt a (List.mem_cons_of_mem _ ha) o (L.kt a ha o h), ?_⟩
                rw [x3.rel.len, hl3, wipe_length]
              refine ⟨hw1, F, D :: T, bx5, sg1, x5.rel, b1, sb1, eb1, fun bx6 H6 x6 => ?_⟩
              have x6' := xx1.trans x6
              cases b1 with
              | false =>
                refine iteF ?_
                exact ⟨bx6, sb1, accj, accDj, rj, fin1 x6', ej, erj⟩
              | true =>
                refine iteT ?_
                obtain ⟨y', s7, e7, ej⟩ := bind_ok (m := te) ej
                obtain ⟨r7, s8, e8, ej⟩ := bind_ok ej
                cases ej
                refine ⟨F, D :: T, bx6, sb1, x6.rel, y', s7, e7, fun v bx7 H7 x7 q7 => ?_⟩
                have rv := q7.rep x7
                have x8 := x6'.trans x7.drop
                have L7 := fin1 x8
                have hlen : accj.length < sizeLine := by
                  have h1 := L7.rep.length
                  have h2 : (accDj ++ y'.1 :: r7).length = (accD ++ r1).length := by rw [erj]
                  have h3 : (accD ++ (r1 ++ r')).length = res.length := by rw [er]
                  rw [List.length_append, List.length_cons, List.length_append] at h2
                  rw [List.length_append, List.length_append] at h3
                  omega
                refine ⟨accj, L7.at_, hlen, bx7, s7, accj ++ [v], accDj ++ [y'.1], r7, ?_, e8, by rw [← erj]; simp⟩
                obtain ⟨rel5, keep5⟩ := L7.rel.setTmp (u' := .lst (accj ++ [v])) List.mem_cons_self L7.at_
                have tr5 : ∀ d u', Rep K bx7 (Wf F { s7 with env := wipeE s7.env vs1 } (wipe σ2 vs1) (D :: T)) H7 d u' → Rep K bx7 (Wf F { s7 with env := wipeE s7.env vs1 } (wipe σ2 vs1) (D :: T)) (upd H7 D (.lst (accj ++ [v]))) d u' := fun d u' h => Rep.to keep5 (fun _ z => .inl z) (fun _ z => .inl z) (fun _ _ z => z) d u' h
                have trL5 : ∀ d v', RepL K bx7 (Wf F { s7 with env := wipeE s7.env vs1 } (wipe σ2 vs1) (D :: T)) H7 d v' → RepL K bx7 (Wf F { s7 with env := wipeE s7.env vs1 } (wipe σ2 vs1) (D :: T)) (upd H7 D (.lst (accj ++ [v]))) d v' := fun d v' h => RepL.to keep5 (fun _ z => .inl z) (fun _ z => .inl z) (fun _ _ z => z) d v' h
                have wf4 : ∀ b, Wf F { s7 with env := wipeE s7.env vs1 } (wipe σ2 vs1) (D :: T) b → Wf F s7 σ3 (D :: T) b := by rw [← hw1]; exact wf_wipe
                refine ⟨rel5, upd_same, (trL5 _ _ L7.rep).append (.cons (tr5 _ _ (rv.less wf4)) .nil), fun d u h => tr5 d u (L7.tr d u h), fun d u h => tr5 d u (L7.tr4 d u h), fun a h => L7.tk a ?_, L7.pre, fun a ha o h => ?_, L7.len⟩
                · by_cases hb : a = D
                  · rw [hb, upd_same] at h; cases h
                  · rwa [upd_ne hb] at h
                · rw [upd_ne (show a ≠ D from fun z => hDT (by rw [← z]; exact ha))]
                  exact L7.kt a ha o h
            · have ej' : j = es.length := by omega
              subst ej'
              rw [List.drop_length] at ej
              cases ej
              rw [List.append_nil] at erj
              refine .inl ⟨zs, bxj, s5, accj, accDj, r', ?_, e6, by rw [erj, ← er]; simp⟩
              have rw5 := L.rel.wipe vs
              have hw5 : wipe (wipe σ2 vs1) vs = wipe σ vs := by
                rw [← hw]
                exact wipe_eq (wipe_length _ _) fun j hj => wipe_out fun z => hj (hv1 j z)
              have he5 : wipeE (wipeE s5.env vs1) vs = wipeE s5.env vs := wipeE_sub hv1
              have wf5 : ∀ b, Wf F { s5 with env := wipeE s5.env vs } (wipe σ vs) (D :: T) b → Wf F { s5 with env := wipeE s5.env vs1 } (wipe σ2 vs1) (D :: T) b := by
                have := wf_wipe (F := F) (T := D :: T) (s := { s5 with env := wipeE s5.env vs1 }) (σ := wipe σ2 vs1) (vs := vs)
                simp only [he5, hw5] at this
                exact this
              simp only [he5, hw5] at rw5
              refine ⟨rw5, L.at_, L.rep.less wf5, fun d v h => (L.tr d v h).less wf5, L.tk, L.pre, L.kt, ?_⟩
              rw [L.len, hl2, wipe_length]
        · have e : i = ds.length := by omega
          subst e
          rw [List.drop_length] at ei
          cases ei
          rw [List.append_nil] at er
          subst er
          refine .inl ⟨ys, ?_⟩
          have own2 : ∀ b, Own { s2 with env := restE s1.env s2.env vs } σ b → Own { s2 with env := wipeE s2.env vs } (wipe σ vs) b := by
            rintro b ⟨j, d, z1, z2⟩
            rcases restE_look z1 with ⟨h1, h2⟩ | ⟨h1, h2⟩
            · exact absurd h2 (freeE_at fr h1)
            · have h3 : (wipe σ vs)[j]? = some (some (V.ref b)) := by rw [wipe_out h1]; exact z2
              exact ⟨j, d, by show (wipeE s2.env vs)[j]? = _; rw [wipeE_out h1]; exact h2, h3⟩
          have wf2 : ∀ b, Wf F { s2 with env := restE s1.env s2.env vs } σ (D :: T) b → Wf F { s2 with env := wipeE s2.env vs } (wipe σ vs) (D :: T) b := fun b z => by
            rcases z with z | z | z
            · exact .inl z
            · exact .inr (.inl (own2 b z))
            · exact .inr (.inr z)
          have wout : ∀ (j : Nat) (x : DB), j ∉ vs → s2.env[j]? = some (some x) → (wipeE s2.env vs)[j]? = some (some x) := fun j x hj hx => by
            rw [wipeE_out hj]; exact hx
          have R := I.rel
          have rel : Rel K F bxi (D :: T) { s2 with env := restE s1.env s2.env vs } σ Hi := by
            refine ⟨?_, R.w0, R.wb, fun j d p => ?_, fun j d p => ?_, fun j l d d' a p1 p2 p3 p4 => ?_, R.box, R.fr, R.tmp, R.nb, R.pre⟩
            · show (restE s1.env s2.env vs).length = _
              rw [restE_len]; exact I.len
            · rcases restE_look p with ⟨h1, h2⟩ | ⟨h1, h2⟩
              · obtain ⟨v, p1, p2⟩ := x1.rel.sh j d h2
                exact ⟨v, p1, (I.tr _ _ p2).less wf2⟩
              · obtain ⟨v, p1, p2⟩ := R.sh j d (wout j _ h1 h2)
                exact ⟨v, by rw [wipe_out h1] at p1; exact p1, p2.less wf2⟩
            · rcases restE_look p with ⟨h1, h2⟩ | ⟨h1, h2⟩
              · exact absurd h2 (freeE_at fr h1)
              · obtain ⟨a, xs, ds', o, p1, p2, p3, p4, p5⟩ := R.ow j d (wout j _ h1 h2)
                exact ⟨a, xs, ds', o, p1, by rw [wipe_out h1] at p2; exact p2, p3, p4.less wf2, p5⟩
            · rcases restE_look p1 with ⟨h1, h2⟩ | ⟨h1, h2⟩
              · exact absurd h2 (freeE_at fr h1)
              · rcases restE_look p2 with ⟨h3, h4⟩ | ⟨h3, h4⟩
                · exact absurd h4 (freeE_at fr h3)
                · exact R.inj j l d d' a (wout j _ h1 h2) (wout l _ h3 h4) (by rw [wipe_out h1]; exact p3) (by rw [wipe_out h3]; exact p4)
          refine k (.ref D) bxi Hi (x1.trans ⟨rel, fun d v h => (I.tr d v h).less wf2, I.tk, I.pre, I.kt, fun a ha => List.mem_cons_of_mem _ ha⟩) ⟨D, acc, accD, _, .inl ⟨rfl, rfl⟩, rfl, I.at_, I.rep.less wf2, fun z => ?_, hDT⟩
          obtain ⟨j, d, z1, z2⟩ := z
          obtain ⟨a, xs, ds', _, p1, p2, p3, p4, p5, p6, _⟩ := rel.ow j d z1
          rw [z2] at p2
          cases p2
          exact p6 List.mem_cons_self
      · cases e
  · cases e
section
variable {X : Cx} {elt tg iter tg1 iter1 : Expr} {scope : Scope} {own : List (Str × Nat)} {pos : Pos} {mi mi1 : M (List D)} {g g1 : D → M Unit} {te : M DB} {ws ws1 vs1 : List Nat}
/-- [elt for tg in iter for tg1 in iter1] -/
theorem se_lc2 (hc : X.calm = true) (hN : X.N.Nodup) (hi : SI X tg iter mi) (ok : BlkOk X.N X.env.scope scope own) (hws : ∀ j ∈ ws, j ∈ own.map (·.2)) (hws1 : ∀ j ∈ ws1, j ∈ vs1) (hv1 : ∀ j ∈ vs1, j ∈ own.map (·.2))
    (hg : Blk X scope fun Y => SG Y tg g ws) (hi1 : Blk X scope fun Y => SI Y tg1 iter1 mi1) (hg1 : Blk X scope fun Y => SG Y tg1 g1 ws1) (he : Blk X scope fun Y => SE Y elt te)
    (hs : ∀ x, foldedSetIterable iter X.env x = pure x := by intro _; rfl) (hs1 : ∀ env x, foldedSetIterable iter1 env x = pure x := by intro _ _; rfl) : SE X (.ListComp elt [⟨tg, iter, [], 0⟩, ⟨tg1, iter1, [], 0⟩] scope pos) (lc2M mi g noT mi1 g1 noT te (own.map (·.2)) vs1) :=
  PE.weak (pe_lc2 (wi := rdI X.K mi) (g := rdG X.K g ws) (tt := rdB X.K noT) (wi1 := rdI X.K mi1) (g1 := rdG X.K g1 ws1) (tt1 := rdB X.K noT) (te := rdT X.K te) hc hN hi ok hv1 hg (fun s H C cl fp => ⟨fun pins s' σ H' Q I q => (pts_nil (X := X.blk s H scope (compEnvC scope cl C X.env) fp)).run pins s' σ H' Q I q.yes⟩) hi1 hg1
    (fun s H C cl fp => ⟨fun pins s' σ H' Q I q => (pts_nil (X := X.blk s H scope (compEnvC scope cl C X.env) fp)).run pins s' σ H' Q I q.yes⟩) he hs hs1) fun _ _ _ h => rdT.lc2 hws hws1 hv1 h
/-- y = [elt for tg in iter for tg1 in iter1] -/
theorem ss_setLc2 {i : Nat} {y : Str} {py spos : Pos} (hc : X.calm = true) (hN : X.N.Nodup) (hy : X.N[i]? = some y) (hyl : X.env.scope.names.lookup y = some .local)
    (hi : SI X tg iter mi) (ok : BlkOk X.N X.env.scope scope own) (hws : ∀ j ∈ ws, j ∈ own.map (·.2)) (hws1 : ∀ j ∈ ws1, j ∈ vs1) (hv1 : ∀ j ∈ vs1, j ∈ own.map (·.2))
    (hg : Blk X scope fun Y => SG Y tg g ws) (hi1 : Blk X scope fun Y => SI Y tg1 iter1 mi1) (hg1 : Blk X scope fun Y => SG Y tg1 g1 ws1) (he : Blk X scope fun Y => SE Y elt te)
    (hsw : swapsWith (.ListComp elt [⟨tg, iter, [], 0⟩, ⟨tg1, iter1, [], 0⟩] scope pos) (some (.Name y py)) spos.line X.env = pure true)
    (hs : ∀ x, foldedSetIterable iter X.env x = pure x := by intro _; rfl) (hs1 : ∀ env x, foldedSetIterable iter1 env x = pure x := by intro _ _; rfl) :
    SS X (.Assign [.Name y py] (.ListComp elt [⟨tg, iter, [], 0⟩, ⟨tg1, iter1, [], 0⟩] scope pos) spos) (setv i (lc2M mi g noT mi1 g1 noT te (own.map (·.2)) vs1)) :=
  PS.weak (ps_setLc2 (wi := rdI X.K mi) (g := rdG X.K g ws) (tt := rdB X.K noT) (wi1 := rdI X.K mi1) (g1 := rdG X.K g1 ws1) (tt1 := rdB X.K noT) (te := rdT X.K te) hc hN hy hyl hsw hi ok hv1 hg (fun s H C cl fp => ⟨fun pins s' σ H' Q I q => (pts_nil (X := X.blk s H scope (compEnvC scope cl C X.env) fp)).run pins s' σ H' Q I q.yes⟩) hi1 hg1
    (fun s H C cl fp => ⟨fun pins s' σ H' Q I q => (pts_nil (X := X.blk s H scope (compEnvC scope cl C X.env) fp)).run pins s' σ H' Q I q.yes⟩) he hs hs1) fun _ _ _ h => rdT.lc2 hws hws1 hv1 (rdSet h)
end
end L2.Pd
set_option maxHeartbeats 4000000
namespace L2.Pd
open PySem PySem.Spec PyProof.Rows

section
variable {K : PySem.W.Frag} {bx : Bxs} {W : Wd} {H H' : Hp}
mutual
/-- a datum stands as long as what it reads stands -/
theorem Rep.rd (k : ∀ b w, (∀ o u, w ≠ .frz o u) → Rd H b w → Rd H' b w) : ∀ (d : D) (v : V), Rep K bx W H d v → Rep K bx W H' d v
  | .non, v, h => by unfold Rep at h ⊢; exact h
  | .bl _, v, h => by unfold Rep at h ⊢; exact h
  | .int _, v, h => by unfold Rep at h ⊢; exact h
  | .str _, v, h => by unfold Rep at h ⊢; exact h
  | .ty _, v, h => by unfold Rep at h ⊢; exact h
  | .tup ds, v, h => by
    unfold Rep at h ⊢
    obtain ⟨a, xs, e, h1, h2⟩ := h
    refine ⟨a, xs, e, ?_, RepL.rd k ds xs h2⟩
    rcases h1 with h1 | h1
    · exact .inl (k _ _ (by intro o u z; cases z) h1)
    · exact .inr h1
  | .lst ds, v, h => by
    unfold Rep at h ⊢
    obtain ⟨a, xs, e, h1, h2⟩ := h
    refine ⟨a, xs, e, ?_, RepL.rd k ds xs h2⟩
    rcases h1 with ⟨h1, h3⟩ | h1
    · exact .inl ⟨k _ _ (by intro o u z; cases z) h1, h3⟩
    · exact .inr h1
  | .box n, v, h => by unfold Rep at h ⊢; exact h
  | .dct ks ds, v, h => by
    unfold Rep at h ⊢
    obtain ⟨a, xs, e, hl, h1, h3, h4, h2⟩ := h
    exact ⟨a, xs, e, hl, k _ _ (by intro o u z; cases z) h1, h3, h4, RepL.rd k ds xs h2⟩
  | .glo _, v, h => by unfold Rep at h ⊢; exact h
  | .exc c ns ds, v, h => by
    unfold Rep at h ⊢
    obtain ⟨a, od, xs, e, h1, hl, h2, h3⟩ := h
    refine ⟨a, od, xs, e, k _ _ (by intro o u z; cases z) h1, hl, ?_, RepL.rd k ds xs h3⟩
    rcases h2 with h2 | ⟨d, h2, h4⟩
    · exact .inl h2
    · exact .inr ⟨d, h2, k _ _ (by intro o u z; cases z) h4⟩
theorem RepL.rd (k : ∀ b w, (∀ o u, w ≠ .frz o u) → Rd H b w → Rd H' b w) : ∀ (ds : List D) (vs : List V), RepL K bx W H ds vs → RepL K bx W H' ds vs
  | [], vs, h => by unfold RepL at h ⊢; exact h
  | d :: ds, vs, h => by
    unfold RepL at h ⊢
    obtain ⟨v, vs', e, h1, h2⟩ := h
    exact ⟨v, vs', e, Rep.rd k d v h1, RepL.rd k ds vs' h2⟩
end
theorem Mut.nfrz {u : HO} (m : Mut u) : ∀ o w, u ≠ .frz o w := fun o w z => by
  rcases m with ⟨_, rfl⟩ | ⟨_, rfl⟩ <;> cases z
theorem rd_lock {a : Addr} {u : HO} {od : Obj} (e : H a = some u) (mu : Mut u) : ∀ b w, (∀ o u, w ≠ .frz o u) → Rd H b w → Rd (upd H a (.frz od u)) b w := fun b w _ h => by
  by_cases hb : b = a
  · subst hb
    rcases h with h | ⟨o, h⟩
    · rw [e] at h; cases h
      exact .inr ⟨od, upd_same⟩
    · rw [e] at h; cases h
      exact absurd rfl (mu.nfrz o w)
  · unfold Rd
    rw [upd_ne hb]
    exact h
theorem rd_unlock {a : Addr} {u : HO} {od : Obj} (e : H a = some (.frz od u)) : ∀ b w, (∀ o u, w ≠ .frz o u) → Rd H b w → Rd (upd H a u) b w := fun b w hw h => by
  by_cases hb : b = a
  · subst hb
    rcases h with h | ⟨o, h⟩
    · rw [e] at h; cases h
      exact absurd rfl (hw od u)
    · rw [e] at h; cases h
      exact .inl upd_same
  · unfold Rd
    rw [upd_ne hb]
    exact h
end
def Fm.lk (F : Fm) (a : Addr) (o : HO) : Fm := { F with H0 := upd F.H0 a o }
section
variable {K : PySem.W.Frag} {F : Fm} {T T' : List Addr} {bx bx' : Bxs} {s s' : S} {σ σ' : St} {H H' : Hp} {a : Addr} {u : HO} {od : Obj}
theorem Rel.lock (r : Rel K F bx T s σ H) (e : H a = some u) (mu : Mut u) (nw : ¬ Wf F s σ T a) (nb : a ∉ bx) : Rel K (F.lk a (.frz od u)) bx T s σ (upd H a (.frz od u)) := by
  have ne0 : ∀ b, F.H0 b = none → b ≠ a → upd F.H0 a (.frz od u) b = none := fun b h n => by rw [upd_ne n]; exact h
  refine ⟨r.len, fun b h => ?_, r.wb, fun i d q => ?_, fun i d q => ?_, r.inj, ⟨r.box.len, r.box.nd, fun n b q => ?_, tabs_upd r.box.tb e mu.nt mu.ne⟩, fun b o q h => ?_, fun b h => ?_, fun b h => ?_, r.pre⟩
  · show upd F.H0 a (.frz od u) b ≠ none
    by_cases hb : b = a
    · rw [hb, upd_same]; exact fun z => nomatch z
    · rw [upd_ne hb]; exact r.w0 b h
  · obtain ⟨v, e1, h⟩ := r.sh i d q
    exact ⟨v, e1, Rep.rd (rd_lock e mu) _ _ h⟩
  · obtain ⟨b, xs, ds, o, e1, e2, e3, h, h1, h2, h3, h4⟩ := r.ow i d q
    have hb : b ≠ a := fun z => nw (.inr (.inl ⟨i, d, q, by rw [← z]; exact e2⟩))
    exact ⟨b, xs, ds, o, e1, e2, by rw [upd_ne hb]; exact e3, RepL.rd (rd_lock e mu) _ _ h, h1, h2, h3, ne0 b h4 hb⟩
  · obtain ⟨ns, e1, e2⟩ := r.box.at_ n b q
    exact ⟨ns, e1, by rw [upd_ne (fun z => nb (by rw [← z]; exact List.mem_of_getElem? q))]; exact e2⟩
  · have q : upd F.H0 a (.frz od u) b = some o := q
    by_cases hb : b = a
    · rw [hb, upd_same] at q; cases q
      rw [hb]; exact .inl upd_same
    · rw [upd_ne hb] at q ⊢; exact r.fr b o q h
  · obtain ⟨h1, h2, h3, o, h4, h5⟩ := r.tmp b h
    have hb : b ≠ a := fun z => nw (.inr (.inr (by rw [← z]; exact h)))
    exact ⟨h1, h2, ne0 b h3 hb, o, by rw [upd_ne hb]; exact h4, h5⟩
  · rcases r.nb b h with z | z
    · exact .inl z
    · exact .inr (ne0 b z fun z => nb (by rw [← z]; exact h))
theorem Rel.lockAt (r : Rel K (F.lk a (.frz od u)) bx' T' s' σ' H') (nb : a ∉ F.b0) : H' a = some (.frz od u) ∧ a ∉ bx' := by
  have h : a ∉ bx' := fun z => (r.nb a z).elim nb fun q => by
    have q : upd F.H0 a (.frz od u) a = none := q
    rw [upd_same] at q; cases q
  exact ⟨(r.fr a _ upd_same h).eq nt_frz, h⟩
theorem Rel.unlock (r : Rel K (F.lk a (.frz od u)) bx' T' s' σ' H') (nb : a ∉ F.b0) (h0 : ∀ o, F.H0 a = some o → o = u) (nw : ¬ F.W0 a ∨ F.H0 a ≠ none) : Rel K F bx' T' s' σ' (upd H' a u) := by
  obtain ⟨e, hnb⟩ := r.lockAt nb
  have no : ∀ b, upd F.H0 a (.frz od u) b = none → b ≠ a ∧ F.H0 b = none := fun b h => by
    by_cases hb : b = a
    · rw [hb, upd_same] at h; cases h
    · rw [upd_ne hb] at h; exact ⟨hb, h⟩
  refine ⟨r.len, fun b h => ?_, r.wb, fun i d q => ?_, fun i d q => ?_, r.inj, ⟨r.box.len, r.box.nd, fun n b q => ?_, tabs_upd r.box.tb e nt_frz (fun _ z => nomatch z)⟩, fun b o q h => ?_, fun b h => ?_, fun b h => ?_, r.pre⟩
  · have := r.w0 b h
    have this : upd F.H0 a (.frz od u) b ≠ none := this
    by_cases hb : b = a
    · subst hb
      exact nw.elim (fun z => absurd h z) id
    · rw [upd_ne hb] at this; exact this
  · obtain ⟨v, e1, h⟩ := r.sh i d q
    exact ⟨v, e1, Rep.rd (rd_unlock e) _ _ h⟩
  · obtain ⟨b, xs, ds, o, e1, e2, e3, h, h1, h2, h3, h4⟩ := r.ow i d q
    obtain ⟨hb, h5⟩ := no b h4
    exact ⟨b, xs, ds, o, e1, e2, by rw [upd_ne hb]; exact e3, RepL.rd (rd_unlock e) _ _ h, h1, h2, h3, h5⟩
  · obtain ⟨ns, e1, e2⟩ := r.box.at_ n b q
    exact ⟨ns, e1, by rw [upd_ne (fun z => hnb (by rw [← z]; exact List.mem_of_getElem? q))]; exact e2⟩
  · by_cases hb : b = a
    · rw [hb, upd_same, h0 o (by rw [← hb]; exact q)]
      exact .inl rfl
    · have := r.fr b o (by show upd F.H0 a (.frz od u) b = some o; rw [upd_ne hb]; exact q) h
      rw [upd_ne hb]; exact this
  · obtain ⟨h1, h2, h3, o, h4, h5⟩ := r.tmp b h
    obtain ⟨hb, h6⟩ := no b h3
    exact ⟨h1, h2, h6, o, by rw [upd_ne hb]; exact h4, h5⟩
  · rcases r.nb b h with z | z
    · exact .inl z
    · exact .inr (no b z).2
theorem Stp.unlock (r : Rel K F bx T s σ H) (e : H a = some u) (mu : Mut u) (nw : ¬ Wf F s σ T a) (nb : a ∉ bx) (x : Stp K (F.lk a (.frz od u)) T bx s σ (upd H a (.frz od u)) bx' T' s' σ' H') :
    H' a = some (.frz od u) ∧ Stp K F T bx s σ H bx' T' s' σ' (upd H' a u) := by
  have nb0 : a ∉ F.b0 := fun z => by
    obtain ⟨n, q⟩ := List.mem_iff_getElem?.mp z
    exact nb (List.mem_of_getElem? (r.pre n a q))
  obtain ⟨e', hnb⟩ := x.rel.lockAt nb0
  refine ⟨e', x.rel.unlock nb0 (fun o q => ?_) (.inl fun z => nw (.inl z)), fun d v h => Rep.rd (rd_unlock e') _ _ (x.tr d v (Rep.rd (rd_lock e mu) _ _ h)), fun b h => ?_, x.pre, fun b h o q => ?_, x.sub⟩
  · rcases r.fr a o q nb with z | ⟨_, _, _, z⟩
    · rw [e] at z; cases z; rfl
    · rw [e] at z; cases z; exact absurd rfl (mu.nt _)
  · by_cases hb : b = a
    · rw [hb, upd_same] at h; cases h
    · rw [upd_ne hb] at h
      have := x.tk b h
      rw [upd_ne hb] at this; exact this
  · have hb : b ≠ a := fun z => nw (.inr (.inr (by rw [← z]; exact h)))
    have := x.kt b h o (by rw [upd_ne hb]; exact q)
    rw [upd_ne hb]; exact this
theorem Res.unlock {t : DB} {v : V} (e : H' a = some (.frz od u)) (q : Res K (F.lk a (.frz od u)) T bx' s' σ' H' t v) : Res K F T bx' s' σ' (upd H' a u) t v := by
  obtain ⟨d, fr⟩ := t
  cases fr with
  | false => exact Rep.rd (rd_unlock e) _ _ q
  | true =>
    obtain ⟨b, xs, ds, o, e1, e2, e3, h, hn, hT⟩ := q
    have hb : b ≠ a := fun z => by
      rw [z, e] at e3; cases e3
      exact (e1.mut).nfrz _ _ rfl
    exact ⟨b, xs, ds, o, e1, e2, by rw [upd_ne hb]; exact e3, RepL.rd (rd_unlock e) _ _ h, hn, hT⟩
end

/-- the dict in slot i stands still while m runs -/
def lockM {α : Type} (i : Nat) (m : M α) : M α := fun s => match s.env[i]? with
  | some (some (.dct ks ds, _)) => m { s with env := s.env.set i (some (.dct ks ds, false)) }
  | _ => .no
def keyD : L2.Key → D
  | .inl i => .int i
  | .inr x => .str x
def dctM {α : Type} (i : Nat) (f : List L2.Key → List D → α) : M α := fun s => match s.env[i]? with
  | some (some (.dct ks ds, false)) => .ok (f ks ds) s
  | _ => .no
def valsM (i : Nat) : M (List D) := dctM i fun _ ds => ds
def keysM (i : Nat) : M (List D) := dctM i fun ks _ => ks.map keyD
def itemsM (i : Nat) : M (List D) := dctM i fun ks ds => (ks.zip ds).map fun p => .tup [keyD p.1, p.2]
/-- slot i's dict is locked since the frame's entry -/
def FzAt (F : Fm) (i : Nat) (σ : St) : Prop := ∃ d o kvs, σ[i]? = some (some (V.ref d)) ∧ F.H0 d = some (.frz o (.dK kvs)) ∧ d ∉ F.b0
def rdTz (K : PySem.W.Frag) (i : Nat) (m : M DB) : TE := fun σ H Q => ∃ F T bx s, Rel K F bx T s σ H ∧ FzAt F i σ ∧ ∃ t s', m s = .ok t s' ∧
  ∀ v bx' H', Stp K F T bx s σ H bx' (tmpOf t v T) s' σ H' → Res K F T bx' s' σ H' t v → Q v H'
def rdIz (K : PySem.W.Frag) (i : Nat) (mi : M (List D)) : TI := fun σ H R => ∃ F T bx s, Rel K F bx T s σ H ∧ FzAt F i σ ∧ ∃ ds s', mi s = .ok ds s' ∧
  ∀ J bx' H', Stp K F T bx s σ H bx' T s' σ H' → Yields K F J bx' (Wf F s' σ T) H' ds → R J H'
section
variable {K : PySem.W.Frag} {F : Fm} {T T' : List Addr} {bx bx' : Bxs} {s s' : S} {σ σ' : St} {H H' : Hp} {a : Addr} {u : HO} {od : Obj} {i : Nat} {Q : VK}
theorem Rel.pin (r : Rel K F bx T s σ H) (e : H a = some (.frz od u)) (nb : a ∉ bx) : Rel K (F.lk a (.frz od u)) bx T s σ H := by
  have ne0 : ∀ b, F.H0 b = none → b ≠ a → upd F.H0 a (.frz od u) b = none := fun b h n => by rw [upd_ne n]; exact h
  refine ⟨r.len, fun b h => ?_, r.wb, r.sh, fun i d q => ?_, r.inj, r.box, fun b o q h => ?_, fun b h => ?_, fun b h => ?_, r.pre⟩
  · show upd F.H0 a (.frz od u) b ≠ none
    by_cases hb : b = a
    · rw [hb, upd_same]; exact fun z => nomatch z
    · rw [upd_ne hb]; exact r.w0 b h
  · obtain ⟨b, xs, ds, o, e1, e2, e3, h, h1, h2, h3, h4⟩ := r.ow i d q
    have hb : b ≠ a := fun z => by
      rw [z, e] at e3; cases e3
      exact (e1.mut).nfrz _ _ rfl
    exact ⟨b, xs, ds, o, e1, e2, e3, h, h1, h2, h3, ne0 b h4 hb⟩
  · have q : upd F.H0 a (.frz od u) b = some o := q
    by_cases hb : b = a
    · rw [hb, upd_same] at q; cases q
      rw [hb]; exact .inl e
    · rw [upd_ne hb] at q; exact r.fr b o q h
  · obtain ⟨h1, h2, h3, o, h4, h5⟩ := r.tmp b h
    have hb : b ≠ a := fun z => by
      rw [z, e] at h4; cases h4
      exact h5.nfrz _ _ rfl
    exact ⟨h1, h2, ne0 b h3 hb, o, h4, h5⟩
  · rcases r.nb b h with z | z
    · exact .inl z
    · exact .inr (ne0 b z fun z => nb (by rw [← z]; exact h))
theorem Rel.unpin (r : Rel K (F.lk a (.frz od u)) bx' T' s' σ' H') (nb : a ∉ F.b0) (h0 : ∀ o, F.H0 a = some o → o = .frz od u) (nw : F.W0 a → F.H0 a ≠ none) : Rel K F bx' T' s' σ' H' := by
  obtain ⟨e, hnb⟩ := r.lockAt nb
  have no : ∀ b, upd F.H0 a (.frz od u) b = none → b ≠ a ∧ F.H0 b = none := fun b h => by
    by_cases hb : b = a
    · rw [hb, upd_same] at h; cases h
    · rw [upd_ne hb] at h; exact ⟨hb, h⟩
  refine ⟨r.len, fun b h => ?_, r.wb, r.sh, fun i d q => ?_, r.inj, r.box, fun b o q h => ?_, fun b h => ?_, fun b h => ?_, r.pre⟩
  · have this : upd F.H0 a (.frz od u) b ≠ none := r.w0 b h
    by_cases hb : b = a
    · subst hb
      exact nw h
    · rw [upd_ne hb] at this; exact this
  · obtain ⟨b, xs, ds, o, e1, e2, e3, h, h1, h2, h3, h4⟩ := r.ow i d q
    exact ⟨b, xs, ds, o, e1, e2, e3, h, h1, h2, h3, (no b h4).2⟩
  · by_cases hb : b = a
    · rw [hb, h0 o (by rw [← hb]; exact q)]; exact .inl e
    · exact r.fr b o (by show upd F.H0 a (.frz od u) b = some o; rw [upd_ne hb]; exact q) h
  · obtain ⟨h1, h2, h3, o, h4, h5⟩ := r.tmp b h
    exact ⟨h1, h2, (no b h3).2, o, h4, h5⟩
  · rcases r.nb b h with z | z
    · exact .inl z
    · exact .inr (no b z).2
theorem Stp.unpin (r : Rel K F bx T s σ H) (e : H a = some (.frz od u)) (nb : a ∉ bx) (x : Stp K (F.lk a (.frz od u)) T bx s σ H bx' T' s' σ' H') : Stp K F T bx s σ H bx' T' s' σ' H' := by
  have nb0 : a ∉ F.b0 := fun z => by
    obtain ⟨n, q⟩ := List.mem_iff_getElem?.mp z
    exact nb (List.mem_of_getElem? (r.pre n a q))
  refine ⟨x.rel.unpin nb0 (fun o q => ?_) (r.w0 a), x.tr, x.tk, x.pre, x.kt, x.sub⟩
  rcases r.fr a o q nb with z | ⟨_, _, _, z⟩
  · rw [e] at z; cases z; rfl
  · rw [e] at z; cases z
theorem Rep.undct {W : Wd} {ks : List L2.Key} {ds : List D} {v : V} (h : Rep K bx W H (.dct ks ds) v) : ∃ a xs, v = .ref a ∧ ks.length = ds.length ∧ Rd H a (.dK (ks.zip xs)) ∧ ¬ W a ∧ a ∉ bx ∧ RepL K bx W H ds xs := by
  unfold Rep at h; exact h
/-- the slot's dict as a shared datum -/
theorem Rel.atD (r : Rel K F bx T s σ H) {ks : List L2.Key} {ds : List D} {b : Bool} (e : s.env[i]? = some (some (.dct ks ds, b))) :
    Stp K F T bx s σ H bx T { s with env := s.env.set i (some (.dct ks ds, false)) } σ H ∧ ∃ a xs, σ[i]? = some (some (V.ref a)) ∧ ks.length = ds.length ∧ Rd H a (.dK (ks.zip xs)) ∧ ¬ Wf F { s with env := s.env.set i (some (.dct ks ds, false)) } σ T a ∧ a ∉ bx := by
  cases b with
  | true =>
    obtain ⟨x, a, h1, h2⟩ := r.share e
    obtain ⟨b, xs, e2, hl, h3, h4, h5, _⟩ := h2.undct
    cases e2
    exact ⟨x, a, xs, h1, hl, h3, h4, h5⟩
  | false =>
    have es : s.env.set i (some (.dct ks ds, false)) = s.env := by
      refine List.ext_getElem? fun j => ?_
      by_cases hj : j = i
      · subst hj
        rw [List.getElem?_set_self (List.getElem?_eq_some_iff.mp e).1, e]
      · rw [List.getElem?_set_ne (Ne.symm hj)]
    have es : { s with env := s.env.set i (some (.dct ks ds, false)) } = s := by rw [es]
    rw [es]
    obtain ⟨v, h1, h2⟩ := r.sh i _ e
    obtain ⟨b, xs, e2, hl, h3, h4, h5, _⟩ := h2.undct
    exact ⟨Stp.refl r, b, xs, by rw [h1, e2], hl, h3, h4, h5⟩
theorem Rel.nb0 (r : Rel K F bx T s σ H) (nb : a ∉ bx) : a ∉ F.b0 := fun z => by
  obtain ⟨n, q⟩ := List.mem_iff_getElem?.mp z
  exact nb (List.mem_of_getElem? (r.pre n a q))
theorem rdT.lock {m : M DB} (h : rdT K (lockM i m) σ H Q) : tLockE (rdTz K i m) σ H Q ∨ rdTz K i m σ H Q := by
  obtain ⟨F, T, bx, s, r, t, s', e, k⟩ := h
  unfold lockM at e
  split at e
  · rename_i ks ds b q
    obtain ⟨x0, a, xs, hσ, hl, h3, h4, h5⟩ := r.atD q
    rcases h3 with h3 | ⟨od, h3⟩
    · refine .inl ⟨a, _, h3, True.intro, fun od => ⟨_, T, bx, _, x0.rel.lock h3 .dK h4 h5, ⟨a, od, _, hσ, upd_same, r.nb0 h5⟩, t, s', e, fun v bx' H' x q => ?_⟩⟩
      obtain ⟨e1, x1⟩ := Stp.unlock x0.rel h3 .dK h4 h5 x
      exact ⟨e1, k v bx' _ (x0.trans x1) (Res.unlock e1 q)⟩
    · refine .inr ⟨_, T, bx, _, x0.rel.pin h3 h5, ⟨a, od, _, hσ, upd_same, r.nb0 h5⟩, t, s', e, fun v bx' H' x q => ?_⟩
      exact k v bx' _ (x0.trans (Stp.unpin x0.rel h3 h5 x)) q
  · cases e
theorem rdTz.lc {mi : M (List D)} {g : D → M Unit} {tt : M Bool} {te : M DB} {vs ws : List Nat} (hws : ∀ j ∈ ws, j ∈ vs) (h : rdTz K i (lcM mi g tt te vs) σ H Q) :
    tLc (rdIz K i mi) (rdG K g ws) (rdB K tt) (rdT K te) vs σ H Q := by
  obtain ⟨F, T, bx, s, r, z, t, s', e, k⟩ := h
  obtain ⟨ds, s1, e1, h⟩ := rdT.lcC hws r e k
  exact ⟨F, T, bx, s, r, z, ds, s1, e1, h⟩
theorem zip_inj {α β : Type} : ∀ {ks : List α} {xs ys : List β}, xs.length = ks.length → ys.length = ks.length → ks.zip xs = ks.zip ys → xs = ys
  | [], [], [], _, _, _ => rfl
  | k :: ks, x :: xs, y :: ys, h1, h2, h => by
    simp only [List.zip_cons_cons, List.cons.injEq, Prod.mk.injEq, true_and] at h
    rw [h.1, zip_inj (by simpa using h1) (by simpa using h2) h.2]
theorem zip_at {α β : Type} {ks : List α} {xs : List β} {i : Nat} {k : α} {x : β} (h : (ks.zip xs)[i]? = some (k, x)) : ks[i]? = some k ∧ xs[i]? = some x := by
  rw [List.getElem?_zip_eq_some] at h; exact h
/-- what a locked dict is wherever it still stands -/
theorem dct_at {W : Wd} {ks : List L2.Key} {ds : List D} {d : Addr} {o : Obj} {kvs : List (L2.Key × V)} (h : Rep K bx W H (.dct ks ds) (.ref d)) (e : H d = some (.frz o (.dK kvs))) : ∃ xs, kvs = ks.zip xs ∧ ks.length = ds.length ∧ RepL K bx W H ds xs := by
  obtain ⟨b, xs, e2, hl, h3, _, _, h6⟩ := h.undct
  cases e2
  rcases h3 with h3 | ⟨_, h3⟩
  · rw [e] at h3; cases h3
  · rw [e] at h3; cases h3
    exact ⟨xs, rfl, hl, h6⟩
theorem rdIz.at {f : List L2.Key → List D → List D} {R : It → Hp → Prop} (h : rdIz K i (dctM i f) σ H R) : ∃ F T bx s d o kvs ks ds, Rel K F bx T s σ H ∧ σ[i]? = some (some (V.ref d)) ∧ H d = some (.frz o (.dK kvs)) ∧ F.H0 d = some (.frz o (.dK kvs)) ∧ d ∉ F.b0 ∧
    Rep K bx (Wf F s σ T) H (.dct ks ds) (.ref d) ∧ ∀ J, Yields K F J bx (Wf F s σ T) H (f ks ds) → R J H := by
  obtain ⟨F, T, bx, s, r, ⟨d, o, kvs, h1, h2, h3⟩, ds, s', e, k⟩ := h
  unfold dctM at e
  split at e
  · rename_i ks ds q
    cases e
    obtain ⟨v, e1, e2⟩ := r.sh i _ q
    rw [h1] at e1; cases e1
    exact ⟨F, T, bx, _, d, o, kvs, ks, ds, r, h1, (r.fz d _ h2 h3).eq nt_frz, h2, h3, e2, fun J y => k J bx H (Stp.refl r) y⟩
  · cases e
theorem yields_vals {W : Wd} {ks : List L2.Key} {ds : List D} {d : Addr} {o : Obj} {kvs : List (L2.Key × V)} (h : Rep K bx W H (.dct ks ds) (.ref d)) (e2 : F.H0 d = some (.frz o (.dK kvs))) (nb : d ∉ F.b0) : Yields K F (Itd d o kvs) bx W H ds := by
  intro bx' W' H' tr fz
  have e' := (fz d _ e2 nb).eq nt_frz
  obtain ⟨xs, rfl, hl, hr⟩ := dct_at (tr _ _ h) e'
  have hz : (ks.zip xs).length = ds.length := by rw [List.length_zip, ← hr.length, hl]; omega
  refine ⟨fun i hi => ⟨⟨e', by omega⟩, fun x H'' y => ?_⟩, ⟨e', by omega⟩⟩
  obtain ⟨e, k, y⟩ := y
  subst e
  refine ⟨Grow.refl, fun d hd => ?_⟩
  obtain ⟨v, e, q⟩ := hr.get hd
  rw [(zip_at y).2] at e; cases e
  exact q
theorem keyD_rep {W : Wd} {k : L2.Key} : Rep K bx W H (keyD k) (kV k) := by
  cases k with
  | inl i => exact Rep.mint
  | inr x => exact Rep.mstr
theorem yields_keys {W : Wd} {ks : List L2.Key} {ds : List D} {d : Addr} {o : Obj} {kvs : List (L2.Key × V)} (h : Rep K bx W H (.dct ks ds) (.ref d)) (e2 : F.H0 d = some (.frz o (.dK kvs))) (nb : d ∉ F.b0) : Yields K F (Itk d o kvs) bx W H (ks.map keyD) := by
  intro bx' W' H' tr fz
  have e' := (fz d _ e2 nb).eq nt_frz
  obtain ⟨xs, rfl, hl, hr⟩ := dct_at (tr _ _ h) e'
  have hz : (ks.zip xs).length = ks.length := by rw [List.length_zip, ← hr.length, hl]; omega
  refine ⟨fun i hi => ⟨⟨e', by rw [List.length_map] at hi; omega⟩, fun x H'' y => ?_⟩, ⟨e', by rw [List.length_map]; omega⟩⟩
  obtain ⟨e, k, v, y, rfl⟩ := y
  subst e
  refine ⟨Grow.refl, fun d hd => ?_⟩
  rw [List.getElem?_map, (zip_at y).1] at hd
  cases hd
  exact keyD_rep
theorem yields_items {W : Wd} {ks : List L2.Key} {ds : List D} {d : Addr} {o : Obj} {kvs : List (L2.Key × V)} (h : Rep K bx W H (.dct ks ds) (.ref d)) (e2 : F.H0 d = some (.frz o (.dK kvs))) (nb : d ∉ F.b0) : Yields K F (Iti d o kvs) bx W H ((ks.zip ds).map fun p => .tup [keyD p.1, p.2]) := by
  intro bx' W' H' tr fz
  have e' := (fz d _ e2 nb).eq nt_frz
  obtain ⟨xs, rfl, hl, hr⟩ := dct_at (tr _ _ h) e'
  have hz : (ks.zip xs).length = ks.length := by rw [List.length_zip, ← hr.length, hl]; omega
  have hz2 : (ks.zip ds).length = ks.length := by rw [List.length_zip, hl]; omega
  refine ⟨fun i hi => ⟨⟨e', by rw [List.length_map] at hi; omega⟩, fun x H'' y => ?_⟩, ⟨e', by rw [List.length_map]; omega⟩⟩
  obtain ⟨A, k, v, y, rfl, hT, rfl⟩ := y
  refine ⟨Grow.new hT, fun d hd => ?_⟩
  obtain ⟨y1, y2⟩ := zip_at y
  rw [List.getElem?_map, Option.map_eq_some_iff] at hd
  obtain ⟨⟨k', d'⟩, hd, rfl⟩ := hd
  obtain ⟨hd1, hd2⟩ := zip_at hd
  rw [y1] at hd1; cases hd1
  obtain ⟨v', e, q⟩ := hr.get hd2
  rw [y2] at e; cases e
  exact Rep.mtup (.of upd_same) (.cons keyD_rep (.cons (q.grow (Grow.new hT) fun _ z => .inl z) .nil))
end
section
variable {X : Cx} {tg iter elt c : Expr} {scope : Scope} {own : List (Str × Nat)} {pos p apos cpos : Pos} {mi : M (List D)} {g : D → M Unit} {tt : M Bool} {te : M DB} {ws : List Nat} {i : Nat} {x : Str}
/-- iter over slot i's dict -/
def SIz (X : Cx) (i : Nat) (tg e : Expr) (mi : M (List D)) : Prop := PI X tg e (rdIz X.K i mi)
theorem si_vals (hN : X.N[i]? = some x := by rfl) (hv : Vis X.env.scope x := by first | exact Or.inl rfl | exact Or.inr (Or.inl rfl) | exact Or.inr (Or.inr rfl)) (hd : (x == ("__debug__" : Str)) = false := by decide)
    (hcd : (x == ("__classdict__" : Str)) = false := by decide) (hbase : attributeBase (.Name x p) "values" X.env (eval (.Name x p) X.env) = eval (.Name x p) X.env := by rfl) (hline : (apos.endLine == cpos.line) = true := by rfl) :
    SIz X i tg (.Call (.Attribute (.Name x p) "values" apos) [] [] cpos) (valsM i) := PI.weak (pi_values (pe_var hN hv hd hcd) hbase hline) fun σ H R h => by
  obtain ⟨F, T, bx, s, d, o, kvs, ks, ds, r, h1, h2, h3, h4, h5, k⟩ := h.at
  exact ⟨_, h1, d, o, kvs, rfl, h2, k _ (yields_vals h5 h3 h4)⟩
theorem si_items {elts : List Expr} {kk : Nat} {tpos : Pos} (hN : X.N[i]? = some x := by rfl) (hv : Vis X.env.scope x := by first | exact Or.inl rfl | exact Or.inr (Or.inl rfl) | exact Or.inr (Or.inr rfl)) (hd : (x == ("__debug__" : Str)) = false := by decide)
    (hcd : (x == ("__classdict__" : Str)) = false := by decide) (hbase : attributeBase (.Name x p) "items" X.env (eval (.Name x p) X.env) = eval (.Name x p) X.env := by rfl) (hline : (apos.endLine == cpos.line) = true := by rfl) :
    SIz X i (.Tuple elts kk tpos) (.Call (.Attribute (.Name x p) "items" apos) [] [] cpos) (itemsM i) := PI.weak (pi_items (pe_var hN hv hd hcd) hbase hline) fun σ H R h => by
  obtain ⟨F, T, bx, s, d, o, kvs, ks, ds, r, h1, h2, h3, h4, h5, k⟩ := h.at
  exact ⟨_, h1, d, o, kvs, rfl, h2, k _ (yields_items h5 h3 h4)⟩
theorem si_keys (hN : X.N[i]? = some x := by rfl) (hv : Vis X.env.scope x := by first | exact Or.inl rfl | exact Or.inr (Or.inl rfl) | exact Or.inr (Or.inr rfl)) (hd : (x == ("__debug__" : Str)) = false := by decide)
    (hcd : (x == ("__classdict__" : Str)) = false := by decide) : SIz X i tg (.Name x p) (keysM i) := PI.weak (pi_keys (pe_var hN hv hd hcd)) fun σ H R h => by
  obtain ⟨F, T, bx, s, d, o, kvs, ks, ds, r, h1, h2, h3, h4, h5, k⟩ := h.at
  exact ⟨_, h1, d, o, rfl, .inl ⟨kvs, h2, k _ (yields_keys h5 h3 h4)⟩⟩
theorem pe_lk {e : Expr} {t : TE} (h : PE X e t) : PE X e fun σ H Q => tLockE t σ H Q ∨ t σ H Q := ⟨fun pins s σ H Q I q => q.elim ((pe_lock h).run pins s σ H Q I) (h.run pins s σ H Q I)⟩
/-- [elt for tg in d.values()] and the like -/
theorem se_lcZ (hc : X.calm = true) (hN : X.N.Nodup) (hi : SIz X i tg iter mi) (ok : BlkOk X.N X.env.scope scope own) (hws : ∀ j ∈ ws, j ∈ own.map (·.2)) (hg : Blk X scope fun Y => SG Y tg g ws) (he : Blk X scope fun Y => SE Y elt te)
    (hs : ∀ x, foldedSetIterable iter X.env x = pure x := by intro _; rfl) : SE X (.ListComp elt [⟨tg, iter, [], 0⟩] scope pos) (lockM i (lcM mi g noT te (own.map (·.2)))) :=
  PE.weak (pe_lk (PE.weak (t := tLc (rdIz X.K i mi) (rdG X.K g ws) (rdB X.K noT) (rdT X.K te) (own.map (·.2))) (pe_lc (wi := rdIz X.K i mi) (g := rdG X.K g ws) (te := rdT X.K te) (tt := rdB X.K noT) hc hN hi ok hg (fun s H C cl fp => ⟨fun pins s' σ H' Q I q => (pts_nil (X := X.blk s H scope (compEnvC scope cl C X.env) fp)).run pins s' σ H' Q I q.yes⟩) he hs) fun _ _ _ h => rdTz.lc hws h)) fun _ _ _ h => h.lock
theorem se_lcZIf (hc : X.calm = true) (hN : X.N.Nodup) (hi : SIz X i tg iter mi) (ok : BlkOk X.N X.env.scope scope own) (hws : ∀ j ∈ ws, j ∈ own.map (·.2)) (hg : Blk X scope fun Y => SG Y tg g ws) (ht : Blk X scope fun Y => SB Y c tt) (he : Blk X scope fun Y => SE Y elt te)
    (hs : ∀ x, foldedSetIterable iter X.env x = pure x := by intro _; rfl) : SE X (.ListComp elt [⟨tg, iter, [c], 0⟩] scope pos) (lockM i (lcM mi g tt te (own.map (·.2)))) :=
  PE.weak (pe_lk (PE.weak (t := tLc (rdIz X.K i mi) (rdG X.K g ws) (rdB X.K tt) (rdT X.K te) (own.map (·.2))) (pe_lc (wi := rdIz X.K i mi) (g := rdG X.K g ws) (te := rdT X.K te) (tt := rdB X.K tt) hc hN hi ok hg (fun s H C cl fp => pts_one (ht s H C cl fp)) he hs) fun _ _ _ h => rdTz.lc hws h)) fun _ _ _ h => h.lock
end
end L2.Pd
set_option maxHeartbeats 4000000
namespace L2.Pd
open PySem PySem.Spec PyProof.Rows

def keyOf : D → Option L2.Key
  | .int i => some (.inl i)
  | .str x => some (.inr x)
  | _ => none
theorem keyOf_rep {K : PySem.W.Frag} {bx : Bxs} {W : Wd} {H : Hp} {d : D} {v : V} {k : L2.Key} (h : Rep K bx W H d v) (e : keyOf d = some k) : v = kV k := by
  cases d with
  | int i => cases e; exact h.int
  | str i => cases e; exact h.str
  | _ => cases e
/-- k set to d: in its place, or at the end -/
def putKs (ks : List L2.Key) (k : L2.Key) : List L2.Key := if (ks.any fun j => decide (j = k)) = true then ks else ks ++ [k]
def putDs (ks : List L2.Key) (ds : List D) (k : L2.Key) (d : D) : List D := if (ks.any fun j => decide (j = k)) = true then (ks.zip ds).map (fun p => if p.1 = k then d else p.2) else ds ++ [d]
def putVs (ks : List L2.Key) (ds : List V) (k : L2.Key) (d : V) : List V := if (ks.any fun j => decide (j = k)) = true then (ks.zip ds).map (fun p => if p.1 = k then d else p.2) else ds ++ [d]
theorem any_zip {ks : List L2.Key} {xs : List V} {k : L2.Key} (h : ks.length = xs.length) : ((ks.zip xs).any fun kv => decide (kv.1 = k)) = ks.any fun j => decide (j = k) := by
  induction ks generalizing xs with
  | nil => rfl
  | cons j ks ih =>
    cases xs with
    | nil => cases h
    | cons x xs => simp only [List.zip_cons_cons, List.any_cons]; rw [ih (by simpa using h)]
theorem zip_map {ks : List L2.Key} {xs : List V} {k : L2.Key} {v : V} (h : ks.length = xs.length) : (ks.zip xs).map (fun kv => if kv.1 = k then (kv.1, v) else kv) = ks.zip ((ks.zip xs).map fun p => if p.1 = k then v else p.2) := by
  induction ks generalizing xs with
  | nil => rfl
  | cons j ks ih =>
    cases xs with
    | nil => cases h
    | cons x xs =>
      simp only [List.zip_cons_cons, List.map_cons]
      rw [← ih (by simpa using h)]
      congr 1
      split <;> rfl
theorem zip_put {ks : List L2.Key} {xs : List V} {k : L2.Key} {v : V} (h : ks.length = xs.length) : L2.putK (ks.zip xs) k v = (putKs ks k).zip (putVs ks xs k v) := by
  unfold L2.putK putKs putVs
  rw [any_zip h]
  split
  · exact zip_map h
  · rw [List.zip_append h]; rfl
theorem putKs_len {ks : List L2.Key} {k : L2.Key} : (putKs ks k).length ≤ ks.length + 1 := by
  unfold putKs; split <;> simp
theorem put_len {ks : List L2.Key} {ds : List D} {k : L2.Key} {d : D} (h : ks.length = ds.length) : (putKs ks k).length = (putDs ks ds k d).length := by
  unfold putKs putDs; split
  · simp [List.length_zip, h]
  · simp [h]
theorem rep_map {K : PySem.W.Frag} {bx : Bxs} {W : Wd} {H : Hp} {k : L2.Key} {d : D} {v : V} (q : Rep K bx W H d v) : ∀ {ks : List L2.Key} {ds : List D} {xs : List V}, RepL K bx W H ds xs → RepL K bx W H ((ks.zip ds).map fun p => if p.1 = k then d else p.2) ((ks.zip xs).map fun p => if p.1 = k then v else p.2)
  | ks, [], xs, h => by rw [h.unnil]; simp; exact .nil
  | [], d' :: ds, xs, h => by simpa using RepL.nil
  | j :: ks, d' :: ds, xs, h => by
    obtain ⟨x, xs', rfl, h1, h2⟩ := h.uncons
    simp only [List.zip_cons_cons, List.map_cons]
    refine .cons ?_ (rep_map q h2)
    by_cases e : j = k
    · simp only [e, if_true]; exact q
    · simp only [e, if_false]; exact h1
theorem put_rep {K : PySem.W.Frag} {bx : Bxs} {W : Wd} {H : Hp} {ks : List L2.Key} {ds : List D} {xs : List V} {k : L2.Key} {d : D} {v : V} (h : RepL K bx W H ds xs) (q : Rep K bx W H d v) : RepL K bx W H (putDs ks ds k d) (putVs ks xs k v) := by
  unfold putDs putVs
  split
  · exact rep_map q h
  · exact h.append (.cons q .nil)
def dcL (g : D → M Unit) (tt : M Bool) (tk tv : M DB) (vs : List Nat) : List D → List L2.Key → List D → M (List L2.Key × List D)
  | [], ks, ds => pure (ks, ds)
  | x :: xs, ks, ds => do
    wipeM vs
    g x
    let b ← tt
    if b then (do
      let y ← tk
      let z ← tv
      match keyOf y.1 with
      | some k => fun s => if ks.length < sizeLine then dcL g tt tk tv vs xs (putKs ks k) (putDs ks ds k z.1) s else .no
      | none => fun _ => .no) else dcL g tt tk tv vs xs ks ds
def dcM (mi : M (List D)) (g : D → M Unit) (tt : M Bool) (tk tv : M DB) (vs : List Nat) : M DB := do
  let xs ← mi
  fun s => if freeE s.env vs then (match dcL g tt tk tv vs xs [] [] s with
    | .ok r s2 => .ok (.dct r.1 r.2, true) { s2 with env := restE s.env s2.env vs }
    | .ex e s2 => .ex e s2
    | .no => .no) else .no
structure DcI (K : PySem.W.Frag) (F : Fm) (T : List Addr) (bx1 : Bxs) (s1 : S) (σ : St) (H1 : Hp) (vs : List Nat) (D : Addr) (bx : Bxs) (s : S) (H : Hp) (ks : List L2.Key) (acc : List V) (accD : List Pd.D) : Prop where
  rel : Rel K F bx (D :: T) { s with env := wipeE s.env vs } (wipe σ vs) H
  at_ : H D = some (.dK (ks.zip acc))
  kl : ks.length = accD.length
  rep : RepL K bx (Wf F { s with env := wipeE s.env vs } (wipe σ vs) (D :: T)) H accD acc
  tr : ∀ d v, Rep K bx1 (Wf F s1 σ T) H1 d v → Rep K bx (Wf F { s with env := wipeE s.env vs } (wipe σ vs) (D :: T)) H d v
  tk : ∀ a, H a = none → H1 a = none
  pre : ∀ (n : Nat) (a : Addr), bx1[n]? = some a → bx[n]? = some a
  kt : ∀ a ∈ T, ∀ o, H1 a = some o → H a = some o
  len : s.env.length = σ.length
theorem wipe_any {e : Ev} {vs : List Nat} : ∀ (j : Nat) (x : DB), j ∉ vs → e[j]? = some (some x) → (wipeE e vs)[j]? = some (some x) := fun j x hj hx => by
  have : ∀ vs' : List Nat, j ∉ vs' → (wipeE e vs')[j]? = e[j]? := fun vs' => by
    induction vs' with
    | nil => intro _; rfl
    | cons v vs' ih =>
      intro hv
      unfold wipeE
      rw [List.getElem?_set_ne (fun e => hv (by rw [e]; exact List.mem_cons_self))]
      exact ih fun z => hv (List.mem_cons_of_mem _ z)
  rw [this vs hj]; exact hx
theorem rdT.dc {K : PySem.W.Frag} {mi : M (List D)} {g : D → M Unit} {tt : M Bool} {tk tv : M DB} {vs ws : List Nat} {σ : St} {H : Hp} {Q : VK} (hws : ∀ j ∈ ws, j ∈ vs) (h : rdT K (dcM mi g tt tk tv vs) σ H Q) :
    tDc (rdI K mi) (rdG K g ws) (rdB K tt) (rdT K tk) (rdT K tv) vs σ H Q := by
  obtain ⟨F, T, bx, s, r, t, s', e, k⟩ := h
  obtain ⟨ds, s1, e1, e⟩ := bind_ok e
  split at e
  · rename_i fr
    cases q : dcL g tt tk tv vs ds [] [] s1 with
    | ex _ _ => rw [q] at e; cases e
    | no => rw [q] at e; cases e
    | ok res s2 =>
      rw [q] at e
      cases e
      refine ⟨F, T, bx, s, r, ds, s1, e1, fun J bx1 H1 x1 y D hD => ?_⟩
      have hDT : D ∉ T := fun z => by
        obtain ⟨_, _, _, xs, p, _⟩ := x1.rel.tmp D z
        rw [hD] at p; cases p
      have g0 : Rel K F bx1 (D :: T) s1 σ (upd H1 D (.dK [])) := x1.rel.grow (Grow.new hD) fun a ha => (List.mem_cons.mp ha).elim (fun z => .inr (by subst z; exact ⟨hD, _, upd_same, .dK⟩)) .inl
      have I0 : DcI K F T bx1 s1 σ H1 vs D bx1 s1 (upd H1 D (.dK [])) [] [] [] := by
        refine ⟨g0.wipe vs, upd_same, rfl, .nil, fun d v h => ?_, fun a h => (Grow.new hD).none h, fun _ _ h => h, fun a ha o h => Grow.new hD a o h, x1.rel.len⟩
        refine Rep.less wf_wipe (h.grow (Grow.new hD) fun a z => ?_)
        rcases z with z | z | z
        · exact .inl (.inl z)
        · exact .inl (.inr (.inl z))
        · exact (List.mem_cons.mp z).elim (fun z => .inr (by rw [z]; exact hD)) fun z => .inl (.inr (.inr z))
      refine ⟨fun i m Hi => i ≤ ds.length ∧ m = ds.length - i ∧ ∃ bxi si ks acc accD, DcI K F T bx1 s1 σ H1 vs D bxi si Hi ks acc accD ∧ dcL g tt tk tv vs (ds.drop i) ks accD si = .ok res s2, ⟨ds.length, Nat.zero_le _, by simp, bx1, s1, [], [], [], I0, by simpa using q⟩, ?_⟩
      rintro i m Hi ⟨hi, rfl, bxi, si, ks, acc, accD, I, ei⟩
      obtain ⟨yg, ys⟩ := y bxi _ Hi I.tr I.rel.fz
      by_cases hlt : i < ds.length
      · obtain ⟨yg1, yg2⟩ := yg i hlt
        refine .inr ⟨yg1, fun H' => ∃ bx' s3 ks' acc' accD', DcI K F T bx1 s1 σ H1 vs D bx' s3 H' ks' acc' accD' ∧ dcL g tt tk tv vs (ds.drop (i + 1)) ks' accD' s3 = .ok res s2, fun H' ⟨bx', s3, ks', acc', accD', I', e'⟩ => ⟨ds.length - (i + 1), by omega, hlt, rfl, bx', s3, ks', acc', accD', I', e'⟩, fun x H' hy => ?_⟩
        obtain ⟨gr, rep⟩ := yg2 x H' hy
        have rp := rep _ (List.getElem?_eq_getElem hlt)
        rw [List.drop_eq_getElem_cons hlt] at ei
        obtain ⟨_, sw, ew, ei⟩ := bind_ok (m := wipeM vs) ei
        cases ew
        obtain ⟨_, sg, eg, ei⟩ := bind_ok (m := g ds[i]) ei
        obtain ⟨b, sb, eb, ei⟩ := bind_ok (m := tt) ei
        have xg : Stp K F (D :: T) bxi { si with env := wipeE si.env vs } (wipe σ vs) Hi bxi (D :: T) { si with env := wipeE si.env vs } (wipe σ vs) H' := Stp.grow I.rel gr (fun _ z => .inl z) (fun _ z => z)
        refine ⟨F, D :: T, bxi, _, ds[i], xg.rel, rp, sg, eg, fun bx2 σ2 H2 x2 hσ hl2 => ?_⟩
        have hw : wipe σ2 vs = wipe σ vs := by
          rw [← wipe_wipe (σ := σ)]
          exact wipe_eq hl2 fun j hj => hσ j fun z => hj (hws j z)
        have xx := xg.trans x2
        have fin : ∀ {bx3 : Bxs} {s3 : S} {H3 : Hp}, Stp K F (D :: T) bxi { si with env := wipeE si.env vs } (wipe σ vs) Hi bx3 (D :: T) s3 σ2 H3 → DcI K F T bx1 s1 σ H1 vs D bx3 s3 H3 ks acc accD := fun {bx3 s3 H3} x3 => by
          have rw3 := x3.rel.wipe vs
          rw [hw] at rw3
          have wf3 : ∀ b, Wf F { s3 with env := wipeE s3.env vs } (wipe σ vs) (D :: T) b → Wf F s3 σ2 (D :: T) b := by rw [← hw]; exact wf_wipe
          refine ⟨rw3, x3.kt D List.mem_cons_self _ I.at_, I.kl, (x3.trL _ _ I.rep).less wf3, fun d v h => (x3.tr d v (I.tr d v h)).less wf3, fun a h => I.tk a (x3.tk a h), fun n a h => x3.pre n a (I.pre n a h), fun a ha o h => x3.kt a (List.mem_cons_of_mem _ ha) o (I.kt a ha o h), ?_⟩
          rw [x3.rel.len, hl2, wipe_length]
        refine ⟨hw, F, D :: T, bx2, sg, x2.rel, b, sb, eb, fun bx3 H3 x3 => ?_⟩
        have x3' := xx.trans x3
        cases b with
        | false =>
          refine iteF ?_
          exact ⟨bx3, sb, ks, acc, accD, fin x3', ei⟩
        | true =>
          refine iteT ?_
          obtain ⟨y', s4, e4, ei⟩ := bind_ok (m := tk) ei
          obtain ⟨z', s5, e5, ei⟩ := bind_ok (m := tv) ei
          cases hkey : keyOf y'.1 with
          | some key =>
            simp only [hkey] at ei
            split at ei
            · rename_i hlen
              refine ⟨F, D :: T, bx3, sb, x3.rel, y', s4, e4, fun v bx4 H4 x4 q4 => ?_⟩
              have ev := keyOf_rep (q4.rep x4) hkey
              refine ⟨F, D :: T, bx4, s4, x4.drop.rel, z', s5, e5, fun v5 bx5 H5 x5 q5 => ?_⟩
              have rv := q5.rep x5
              have x6 := (x3'.trans x4.drop).trans x5.drop
              have I5 := fin x6
              have hal : ks.length = acc.length := by rw [I5.kl, I5.rep.length]
              refine ⟨ks.zip acc, key, ev, I5.at_, by rw [List.length_zip, hal]; omega, bx5, s5, putKs ks key, putVs ks acc key v5, putDs ks accD key z'.1, ?_, ei⟩
              obtain ⟨rel5, keep5⟩ := I5.rel.setTmp (u' := .dK (L2.putK (ks.zip acc) key v5)) List.mem_cons_self I5.at_ .dK .dK
              have tr5 : ∀ d u', Rep K bx5 (Wf F { s5 with env := wipeE s5.env vs } (wipe σ vs) (D :: T)) H5 d u' → Rep K bx5 (Wf F { s5 with env := wipeE s5.env vs } (wipe σ vs) (D :: T)) (upd H5 D (.dK (L2.putK (ks.zip acc) key v5))) d u' := fun d u' h => Rep.to keep5 (fun _ z => .inl z) (fun _ z => .inl z) (fun _ _ z => z) d u' h
              have trL5 : ∀ d v', RepL K bx5 (Wf F { s5 with env := wipeE s5.env vs } (wipe σ vs) (D :: T)) H5 d v' → RepL K bx5 (Wf F { s5 with env := wipeE s5.env vs } (wipe σ vs) (D :: T)) (upd H5 D (.dK (L2.putK (ks.zip acc) key v5))) d v' := fun d v' h => RepL.to keep5 (fun _ z => .inl z) (fun _ z => .inl z) (fun _ _ z => z) d v' h
              have wf4 : ∀ b, Wf F { s5 with env := wipeE s5.env vs } (wipe σ vs) (D :: T) b → Wf F s5 σ2 (D :: T) b := by rw [← hw]; exact wf_wipe
              refine ⟨rel5, by rw [upd_same, zip_put hal], put_len I5.kl, put_rep (trL5 _ _ I5.rep) (tr5 _ _ (rv.less wf4)), fun d u h => tr5 d u (I5.tr d u h), fun a h => I5.tk a ?_, I5.pre, fun a ha o h => ?_, I5.len⟩
              · by_cases hb : a = D
                · rw [hb, upd_same] at h; cases h
                · rwa [upd_ne hb] at h
              · rw [upd_ne (show a ≠ D from fun z => hDT (by rw [← z]; exact ha))]
                exact I5.kt a ha o h
            · cases ei
          | none => simp only [hkey] at ei; cases ei
      · have e : i = ds.length := by omega
        subst e
        rw [List.drop_length] at ei
        cases ei
        refine .inl ⟨ys, ?_⟩
        have own2 : ∀ b, Own { s2 with env := restE s1.env s2.env vs } σ b → Own { s2 with env := wipeE s2.env vs } (wipe σ vs) b := by
          rintro b ⟨j, d, z1, z2⟩
          rcases restE_look z1 with ⟨h1, h2⟩ | ⟨h1, h2⟩
          · exact absurd h2 (freeE_at fr h1)
          · exact ⟨j, d, wipe_any j _ h1 h2, by rw [wipe_out h1]; exact z2⟩
        have wf2 : ∀ b, Wf F { s2 with env := restE s1.env s2.env vs } σ (D :: T) b → Wf F { s2 with env := wipeE s2.env vs } (wipe σ vs) (D :: T) b := fun b z => by
          rcases z with z | z | z
          · exact .inl z
          · exact .inr (.inl (own2 b z))
          · exact .inr (.inr z)
        have R := I.rel
        have rel : Rel K F bxi (D :: T) { s2 with env := restE s1.env s2.env vs } σ Hi := by
          refine ⟨?_, R.w0, R.wb, fun j d p => ?_, fun j d p => ?_, fun j l d d' a p1 p2 p3 p4 => ?_, R.box, R.fr, R.tmp, R.nb, R.pre⟩
          · show (restE s1.env s2.env vs).length = _
            rw [restE_len]; exact I.len
          · rcases restE_look p with ⟨h1, h2⟩ | ⟨h1, h2⟩
            · obtain ⟨v, p1, p2⟩ := x1.rel.sh j d h2
              exact ⟨v, p1, (I.tr _ _ p2).less wf2⟩
            · obtain ⟨v, p1, p2⟩ := R.sh j d (wipe_any j _ h1 h2)
              exact ⟨v, by rw [wipe_out h1] at p1; exact p1, p2.less wf2⟩
          · rcases restE_look p with ⟨h1, h2⟩ | ⟨h1, h2⟩
            · exact absurd h2 (freeE_at fr h1)
            · obtain ⟨a, xs, ds', o, p1, p2, p3, p4, p5⟩ := R.ow j d (wipe_any j _ h1 h2)
              exact ⟨a, xs, ds', o, p1, by rw [wipe_out h1] at p2; exact p2, p3, p4.less wf2, p5⟩
          · rcases restE_look p1 with ⟨h1, h2⟩ | ⟨h1, h2⟩
            · exact absurd h2 (freeE_at fr h1)
            · rcases restE_look p2 with ⟨h3, h4⟩ | ⟨h3, h4⟩
              · exact absurd h4 (freeE_at fr h3)
              · exact R.inj j l d d' a (wipe_any j _ h1 h2) (wipe_any l _ h3 h4) (by rw [wipe_out h1]; exact p3) (by rw [wipe_out h3]; exact p4)
        refine k (.ref D) bxi Hi (x1.trans ⟨rel, fun d v h => (I.tr d v h).less wf2, I.tk, I.pre, I.kt, fun a ha => List.mem_cons_of_mem _ ha⟩) ⟨D, acc, accD, _, .inr ⟨ks, rfl, I.kl, rfl⟩, rfl, I.at_, I.rep.less wf2, fun z => ?_, hDT⟩
        obtain ⟨j, d, z1, z2⟩ := z
        obtain ⟨a, xs, ds', _, p1, p2, p3, p4, p5, p6, _⟩ := rel.ow j d z1
        rw [z2] at p2
        cases p2
        exact p6 List.mem_cons_self
  · cases e
end L2.Pd
set_option maxHeartbeats 4000000
namespace L2.Pd
open PySem PySem.Spec PyProof.Rows
def pyd (d : D) : PyData := d.py.getD .none
def isTupD : PyData → Bool
  | .tuple (_ :: _) => true
  | _ => false
/-- all are tuples that can be compared place by place -/
def sortOk (ds : List D) : Bool := ds.all (fun d => d.py.isSome && decide ((pyd d).depth ≤ 32) && isTupD (pyd d)) && ds.all (fun d => ds.all fun e => PySem.W.alike (pyd d) (pyd e)) && decide (ds.length ≤ sizeLine)
def srtD (ds : List D) : List D := ds.mergeSort (PySem.W.dataLe false pyd)
def sortedG : List D → Option DB
  | [.lst ds] => if sortOk ds then some (.lst (srtD ds), true) else none
  | _ => none
section
variable {X : Cx}
theorem each_of {R : V → Value → Prop} {K : PySem.W.Frag} {bx : Bxs} {W : Wd} {H : Hp} : ∀ {ds : List D} {xs : List V} {us : List Value}, RepL K bx W H ds xs → Vals xs us → PySem.W.EachIs (fun u d => ∃ x, RelV x u ∧ Rep K bx W H d x) us ds
  | [], xs, us, h, v => by rw [h.unnil] at v; cases v; exact .nil
  | d :: ds, xs, us, h, v => by
    obtain ⟨x, xs', rfl, h1, h2⟩ := h.uncons
    cases v with
    | cons r rs => exact .cons ⟨x, r, h1⟩ (each_of (R := R) h2 rs)
theorem of_each {K : PySem.W.Frag} {bx : Bxs} {W : Wd} {H : Hp} : ∀ {ds : List D} {us : List Value}, PySem.W.EachIs (fun u d => ∃ x, RelV x u ∧ Rep K bx W H d x) us ds → ∃ xs, Vals xs us ∧ RepL K bx W H ds xs
  | _, _, .nil => ⟨[], .nil, .nil⟩
  | _, _, .cons ⟨x, r, h⟩ q => by
    obtain ⟨xs, h1, h2⟩ := of_each q
    exact ⟨x :: xs, .cons r h1, .cons h h2⟩
theorem call_sortedG (hu : X.A.units + 64 < cLine) : CallR X (.builtin "sorted") (Pu X.K sortedG) := by
  intro pins s σ H xs us Q I r h
  obtain ⟨bx, W, ds, t, q, e, k⟩ := h
  unfold sortedG at e
  split at e
  · split at e
    · rename_i ds' c
      cases e
      obtain ⟨v, vs, rfl, h1, h2⟩ := q.uncons
      rw [h2.unnil] at r
      obtain ⟨a, xs, rfl, q1, q2⟩ := h1.lst
      obtain ⟨its, rv, hl, hz⟩ := I.list q1
      rw [Vals.ref1 r]
      unfold sortOk at c
      obtain ⟨c12, c3⟩ := Bool.and_eq_true_iff.mp c
      obtain ⟨c1, c2⟩ := Bool.and_eq_true_iff.mp c12
      have c3 := of_decide_eq_true c3
      have p1 : ∀ d ∈ ds', d.py = some (pyd d) ∧ (pyd d).depth ≤ 32 ∧ ∃ x r, pyd d = .tuple (x :: r) := fun d hd => by
        have z := List.all_eq_true.mp c1 d hd
        obtain ⟨z12, z3⟩ := Bool.and_eq_true_iff.mp z
        obtain ⟨z1, z2⟩ := Bool.and_eq_true_iff.mp z12
        refine ⟨?_, of_decide_eq_true z2, ?_⟩
        · unfold pyd
          cases hp : d.py with
          | none => rw [hp] at z1; cases z1
          | some p => rfl
        · revert z3
          unfold isTupD
          split
          · rename_i x r e; intro _; exact ⟨x, r, e⟩
          · intro z; cases z
      have ea := each_of (R := fun _ _ => True) q2 rv
      refine PySem.W.sorted_data (bs := ds') (enc := pyd) hl.isList ea ?_ ?_ (.inl fun d hd => ?_) c3 (fun d hd => ?_) fun out ho er => ?_
      · refine (PySem.W.each_mem ea).mono fun u d hh => ?_
        obtain ⟨⟨x, hr, hx⟩, hd⟩ := hh
        exact Dp.reads I _ x u (Rep.dp _ _ _ hx (p1 d hd).1) hr
      · intro d hd d' hd'
        obtain ⟨b, hb, rfl⟩ := List.mem_map.mp hd
        obtain ⟨b', hb', rfl⟩ := List.mem_map.mp hd'
        exact List.all_eq_true.mp (List.all_eq_true.mp c2 b hb) b' hb'
      · obtain ⟨b, hb, rfl⟩ := List.mem_map.mp hd
        exact (p1 b hb).2.2
      · have := (p1 d hd).2.1
        omega
      · obtain ⟨ys, hv, hR⟩ := of_each er
        obtain ⟨ep, he'⟩ := PyProof.Rows.sortedAll_at s.heap its (List.toArray out)
        have hlen : ys.length ≤ sizeLine := by rw [hv.length, ho]; exact c3
        have hn : H (s.heap.objs.size + 1) = none := I.hok.fresh (Nat.le_succ _)
        refine ⟨.ref _, upd H (s.heap.objs.size + 1) (.lst ys), I.laid (t' := s.toks) (fun _ _ => PyProof.Rows.sortedAll_old) (Nat.le_succ _) ⟨hlen, out, ep, hv, he'⟩, rfl, ?_⟩
        exact k _ _ (Grow.new hn) (ResN.newL hn hR)
    · cases e
  · cases e
end
end L2.Pd
set_option maxHeartbeats 4000000
namespace L2.Pd
open PySem PySem.Spec PyProof.Rows
section
variable {X : Cx}
theorem ps_setDc {i : Nat} {y : Str} {py : Pos} {kx vx tg iter : Expr} {ifs : List Expr} {scope : Scope} {own : List (Str × Nat)} {pos spos : Pos} {wi : TI} {g : TG} {tt : TT} {tk tv : TE} (hc : X.calm = true) (hN : X.N.Nodup) (hy : X.N[i]? = some y) (hyl : X.env.scope.names.lookup y = some .local)
    (hsw : swapsWith (.DictComp kx vx [⟨tg, iter, ifs, 0⟩] scope pos) (some (.Name y py)) spos.line X.env = pure true) (hi : PI X tg iter wi) (ok : BlkOk X.N X.env.scope scope own)
    (hg : ∀ (s : Shared) (H : Hp) (C : Addr) (cl : List (Str × Addr)) (fp : List Addr), PG (X.blk s H scope (compEnvC scope cl C X.env) fp) tg g) (ht : ∀ (s : Shared) (H : Hp) (C : Addr) (cl : List (Str × Addr)) (fp : List Addr), PTs (X.blk s H scope (compEnvC scope cl C X.env) fp) ifs tt)
    (hk : ∀ (s : Shared) (H : Hp) (C : Addr) (cl : List (Str × Addr)) (fp : List Addr), PE (X.blk s H scope (compEnvC scope cl C X.env) fp) kx tk)
    (he : ∀ (s : Shared) (H : Hp) (C : Addr) (cl : List (Str × Addr)) (fp : List Addr), PE (X.blk s H scope (compEnvC scope cl C X.env) fp) vx tv) (hs : ∀ x, foldedSetIterable iter X.env x = pure x := by intro _; rfl) :
    PS X (.Assign [.Name y py] (.DictComp kx vx [⟨tg, iter, ifs, 0⟩] scope pos) spos) (tAsg (tDc wi g tt tk tv (own.map (·.2))) (gName i)) := by
  refine ⟨fun pins s σ H D I h => ?_⟩
  rw [exec_Assign_Name_used _ _ _ _ hsw]
  refine wpAny_bind (wpAny_standAt (wpAny_bind ?_))
  show wpAny _ X.A (do let _ ← comprehension (.DictComp kx vx [⟨tg, iter, ifs, 0⟩] scope pos) scope X.env (firstIterPos [⟨tg, iter, ifs, 0⟩] pos) newDict false (eval iter X.env) (some (assign (.Name y py) X.env))) _ _ s
  have h : tDc wi g tt tk tv (own.map (·.2)) σ H (fun x H1 => gName i x σ H1 D.nx) := h
  refine wpAny_bind (thn (dc_core (Qf := fun _ s' => SP X pins D .next s') hc hN I hi ok hg ht hk he hs h fun L C s' m H' I' q hn f => ?_) fun _ s' hq => wpAny_pure (wpAny_pure hq))
  show wpAny _ _ (assign (.Name y py) X.env (.ref L)) _ _ _
  refine wpAny_assign_Name (store_ok2 (v := V.ref L) I' hN hy (.inl hyl) rfl (fun s2 I2 ⟨a, sb, ha⟩ => ?_) (.inr hyl))
  obtain ⟨f0, f1, f2, f3, f4, f5⟩ := f
  have haC : C ≠ a := by
    rcases ha with z | z
    · rw [z]; exact f1
    · exact fun e => f4 y a z e.symm
  refine ⟨m, hn.sameBut sb haC, fun h3 sb3 => ?_⟩
  exact ⟨_, H', I2.turned (t' := s2.toks) (fun b o hb e => (sb3.2 b hb).trans e) f0 f1 f3 f4 f5, q⟩
theorem sw_trueD {kx vx : Expr} {gs : List Comprehension} {scope : Scope} {pos py : Pos} {y : Str} {l : Nat} {env : Env} (hk : env.scope.kind = .function) (hy : env.scope.names.lookup y = some .local) (hl : (py.line == pos.line) = true)
    (ha : (scope.names.any fun (n, k) => n == y && (k == .local || k == .cell)) = false) : swapsWith (.DictComp kx vx gs scope pos) (some (.Name y py)) l env = pure true := by
  have ky : env.kindOf y = some .local := hy
  have hb : env.blockKind = .function := by unfold Env.blockKind; rw [hk]; rfl
  unfold swapsWith
  simp only [hb, ky, ha, Expr.pos, hl]
  rfl
end
section
variable {X : Cx} {kx vx tg iter c : Expr} {scope : Scope} {own : List (Str × Nat)} {pos spos py : Pos} {mi : M (List D)} {g : D → M Unit} {tt : M Bool} {tk tv : M DB} {ws : List Nat} {i : Nat} {y : Str}
/-- y = {k: v for tg in iter} -/
theorem ss_setDc (hc : X.calm = true) (hN : X.N.Nodup) (hy : X.N[i]? = some y) (hyl : X.env.scope.names.lookup y = some .local) (hi : SI X tg iter mi) (ok : BlkOk X.N X.env.scope scope own) (hws : ∀ j ∈ ws, j ∈ own.map (·.2)) (hg : Blk X scope fun Y => SG Y tg g ws) (hk : Blk X scope fun Y => SE Y kx tk) (he : Blk X scope fun Y => SE Y vx tv)
    (hsw : swapsWith (.DictComp kx vx [⟨tg, iter, [], 0⟩] scope pos) (some (.Name y py)) spos.line X.env = pure true)
    (hs : ∀ x, foldedSetIterable iter X.env x = pure x := by intro _; rfl) : SS X (.Assign [.Name y py] (.DictComp kx vx [⟨tg, iter, [], 0⟩] scope pos) spos) (setv i (dcM mi g noT tk tv (own.map (·.2)))) :=
  PS.weak (ps_setDc (wi := rdI X.K mi) (g := rdG X.K g ws) (tk := rdT X.K tk) (tv := rdT X.K tv) (tt := rdB X.K noT) hc hN hy hyl hsw hi ok hg (fun s H C cl fp => ⟨fun pins s' σ H' Q I q => (pts_nil (X := X.blk s H scope (compEnvC scope cl C X.env) fp)).run pins s' σ H' Q I q.yes⟩) hk he hs) fun _ _ _ h => rdT.dc hws (rdSet h)
theorem ss_setDcIf (hc : X.calm = true) (hN : X.N.Nodup) (hy : X.N[i]? = some y) (hyl : X.env.scope.names.lookup y = some .local) (hi : SI X tg iter mi) (ok : BlkOk X.N X.env.scope scope own) (hws : ∀ j ∈ ws, j ∈ own.map (·.2)) (hg : Blk X scope fun Y => SG Y tg g ws) (ht : Blk X scope fun Y => SB Y c tt) (hk : Blk X scope fun Y => SE Y kx tk) (he : Blk X scope fun Y => SE Y vx tv)
    (hsw : swapsWith (.DictComp kx vx [⟨tg, iter, [c], 0⟩] scope pos) (some (.Name y py)) spos.line X.env = pure true)
    (hs : ∀ x, foldedSetIterable iter X.env x = pure x := by intro _; rfl) : SS X (.Assign [.Name y py] (.DictComp kx vx [⟨tg, iter, [c], 0⟩] scope pos) spos) (setv i (dcM mi g tt tk tv (own.map (·.2)))) :=
  PS.weak (ps_setDc (wi := rdI X.K mi) (g := rdG X.K g ws) (tk := rdT X.K tk) (tv := rdT X.K tv) (tt := rdB X.K tt) hc hN hy hyl hsw hi ok hg (fun s H C cl fp => pts_one (ht s H C cl fp)) hk he hs) fun _ _ _ h => rdT.dc hws (rdSet h)
/-- {k: v for tg in iter} -/
theorem se_dc (hc : X.calm = true) (hN : X.N.Nodup) (hi : SI X tg iter mi) (ok : BlkOk X.N X.env.scope scope own) (hws : ∀ j ∈ ws, j ∈ own.map (·.2)) (hg : Blk X scope fun Y => SG Y tg g ws) (hk : Blk X scope fun Y => SE Y kx tk) (he : Blk X scope fun Y => SE Y vx tv)
    (hs : ∀ x, foldedSetIterable iter X.env x = pure x := by intro _; rfl) : SE X (.DictComp kx vx [⟨tg, iter, [], 0⟩] scope pos) (dcM mi g noT tk tv (own.map (·.2))) :=
  PE.weak (pe_dc (wi := rdI X.K mi) (g := rdG X.K g ws) (tk := rdT X.K tk) (tv := rdT X.K tv) (tt := rdB X.K noT) hc hN hi ok hg (fun s H C cl fp => ⟨fun pins s' σ H' Q I q => (pts_nil (X := X.blk s H scope (compEnvC scope cl C X.env) fp)).run pins s' σ H' Q I q.yes⟩) hk he hs) fun _ _ _ h => rdT.dc hws h
theorem se_dcIf (hc : X.calm = true) (hN : X.N.Nodup) (hi : SI X tg iter mi) (ok : BlkOk X.N X.env.scope scope own) (hws : ∀ j ∈ ws, j ∈ own.map (·.2)) (hg : Blk X scope fun Y => SG Y tg g ws) (ht : Blk X scope fun Y => SB Y c tt) (hk : Blk X scope fun Y => SE Y kx tk) (he : Blk X scope fun Y => SE Y vx tv)
    (hs : ∀ x, foldedSetIterable iter X.env x = pure x := by intro _; rfl) : SE X (.DictComp kx vx [⟨tg, iter, [c], 0⟩] scope pos) (dcM mi g tt tk tv (own.map (·.2))) :=
  PE.weak (pe_dc (wi := rdI X.K mi) (g := rdG X.K g ws) (tk := rdT X.K tk) (tv := rdT X.K tv) (tt := rdB X.K tt) hc hN hi ok hg (fun s H C cl fp => pts_one (ht s H C cl fp)) hk he hs) fun _ _ _ h => rdT.dc hws h
end
end L2.Pd
set_option maxHeartbeats 4000000
namespace L2.Pd
open PySem PySem.Spec PyProof.Rows
section
variable {X : Cx}
def minTD : List D → Option DB
  | [.tup ds] => (intsOf ds).bind fun ns => ns.min?.map fun m => (.int m, false)
  | _ => none
theorem call_minTD (hc : X.calm = true) (hu : X.A.units + 64 < cLine) : CallR X (.builtin "min") (Pu X.K minTD) := by
  intro pins s σ H xs us Q I r h
  obtain ⟨bx, W, ds, t, q, e, k⟩ := h
  unfold minTD at e
  split at e
  · obtain ⟨ns, e1, e⟩ := Option.bind_eq_some_iff.mp e
    obtain ⟨m, e2, rfl⟩ := Option.map_eq_some_iff.mp e
    obtain ⟨v, vs, rfl, h1, h2⟩ := q.uncons
    rw [h2.unnil] at r
    obtain ⟨a, xs, rfl, q1, q2⟩ := h1.tup
    rw [intsOf_eq e1] at q2
    rw [q2.unints] at q1
    obtain ⟨its, rv, hl, _⟩ := I.tuple q1
    obtain rfl := Vals.ref1 r
    have hi := rv.ints
    cases ns with
    | nil => cases e2
    | cons n ns =>
      have al := alike_intsP (n :: ns)
      have rd := reads_intsP s.heap hi
      rw [List.map_cons] at al rd
      refine PySem.W.min_tuple_data (I.ok.hd hc) hl rd al (by rw [← List.map_cons, depth_intsP]; omega) (fun i v h' tk bs hv rd hk => ?_)
      rw [PySem.W.minD_ints] at rd
      cases rd with
      | int _ t =>
        rw [List.min?_cons'] at e2
        cases e2
        exact ⟨.int _, H, I.kept hk, ⟨_, rfl⟩, k _ H Grow.refl (ResN.old Rep.mint)⟩
  · cases e
end
end L2.Pd
set_option maxHeartbeats 4000000
namespace PySem.AutoSeq1
open PySem.MeetsSeq
theorem list_extend_tup (l : Addr) (items : Array Value) (n : Nat) (b : Addr) (items2 : Array Value) (n2 : Nat) (dd : Option Addr) (sl : Array (Option Value)) (hs0 : ¬(!items.isEmpty && Builtin.List.listTooLong (items.size + items2.size)) = true) (hs1 : items.size ≤ sizeLine) (hs2 : items.size + items2.size ≤ sizeLine + 1) :
    Meets (Builtin.«list.extend» ⟨[.ref l, .ref b], []⟩) (fun _ R s => s.heap.get? l = some { cls := .type "list", dict := none, data := .seq items n, slots := #[] } ∧ s.heap.get? b = some { cls := .type "tuple", dict := dd, data := .seq items2 n2, slots := sl } ∧ R (.ok (.ret Value.none)) { s with heap := s.heap.update l (Obj.mapSeq fun x => x ++ items2), toks := s.toks }) :=
  .of_wp fun prog w A R s h => by
    obtain ⟨hp, g, d, tk, os⟩ := s; obtain ⟨hl, hb, h⟩ := h; have f1 := idx_int; have f2 := sub_tuple_tuple; have f3 := sub_list_list; have f4 := sub_tuple_list; have f5 := sub_list_tuple;
    have hz' : (items ++ items2).size ≤ sizeLine + 1 := by rw [Array.size_append]; exact hs2
    wp_walk using (wpAny_updateSeq hl rfl (hz := hs1) (_hz' := hz')), wpAny_loadPart' hl, wpAny_loadPart' hb; exact ⟨_, rfl, h⟩
end PySem.AutoSeq1
namespace L2.Pd
open PySem PySem.Spec PyProof.Rows
section
variable {X : Cx}
def rExtendT (K : PySem.W.Frag) : V → List V → Hp → VK → Prop := fun x vs H Q => ∃ l b xs zs, x = .ref l ∧ vs = [.ref b] ∧ H l = some (.lst xs) ∧ SqT K H b zs ∧ xs.length + zs.length ≤ sizeLine ∧ Q .non (upd H l (.lst (xs ++ zs)))
theorem mt_extendT : MtM X "list.extend" (rExtendT X.K) := by
  intro pins s σ H x vs v us Q I rx rv h
  obtain ⟨l, b, xs, zs, rfl, rfl, hH, hB, hz, q⟩ := h
  cases rx
  obtain ⟨u, rfl, ru⟩ := rv.one
  cases ru
  obtain ⟨z, its, n, r, hl, e⟩ := I.lstM hH
  obtain ⟨its2, r2, ⟨⟨cls, dd, data, sl⟩, ho, hc, n2, hd⟩, hl2⟩ := I.tuple hB
  simp only at hc hd
  subst hc hd
  have l2 := r2.length
  have hsz : its.toArray.size + its2.toArray.size ≤ sizeLine := by rw [List.size_toArray, List.size_toArray]; omega
  have hlong : ¬ (!its.toArray.isEmpty && Builtin.List.listTooLong (its.toArray.size + its2.toArray.size)) = true := by
    rw [notLongL hsz, Bool.and_false]
    exact Bool.false_ne_true
  refine call_meets F.slot_list_extend ⟨_, e, rfl⟩ F.entry_list_extend (F.args_list_extend_2 _ _)
    (AutoSeq1.list_extend_tup l its.toArray n b its2.toArray n2 dd sl hlong (by rw [List.size_toArray]; omega) (by omega)) ⟨e, ho, ?_⟩
  refine ⟨.non, _, I.lset (its' := its ++ its2) hH e (by simp) (r.append r2) ?_, rfl, q⟩
  rw [List.length_append]
  omega
def extTM (i : Nat) (m : M DB) : M DB := onOwn i do
  let t ← m
  fun s => match ownAt s i, t.1 with
    | some ds, .tup es => if ds.length + es.length ≤ sizeLine then .ok (.non, false) (putO s i (ds ++ es)) else .no
    | _, _ => .no
variable {a : Expr} {ma : M DB} {x : Str} {p apos cpos : Pos}
theorem se_extT (i : Nat) (ha : SE X a ma) (hN : X.N[i]? = some x := by rfl) (hv : Vis X.env.scope x := by first | exact Or.inl rfl | exact Or.inr (Or.inl rfl) | exact Or.inr (Or.inr rfl)) (hd : (x == ("__debug__" : Str)) = false := by decide)
    (hcd : (x == ("__classdict__" : Str)) = false := by decide)
    (hbase : attributeBase (.Name x p) "extend" X.env (eval (.Name x p) X.env) = eval (.Name x p) X.env := by rfl)
    (hfew : ((backTo cpos (starEach [a] X.env)).all (fun x => !x.1) && (backToKw cpos (keywordEach [] X.env)).all (fun x => x.1.isSome)
      && decide ([a].length + ([] : List Keyword).length + (if ([] : List Keyword).isEmpty then 0 else 1) < 30)) = true := by rfl)
    (hline : (apos.endLine == cpos.line) = true := by rfl) (hs : starEach [a] X.env = (false, eval a X.env) :: starEach [] X.env := by rfl) (hplain : (backTo cpos (starEach [] X.env)).any (·.1) = false := by rfl) :
    SE X (.Call (.Attribute (.Name x p) "extend" apos) [a] [] cpos) (extTM i ma) :=
  PE.weak (pe_bm PySem.F.plainAttrs_list PySem.F.slot_list_extend PySem.F.type_list_extend mt_extendT (pe_var hN hv hd hcd) (pa_cons ha.d pa_nil hs) hbase hfew hline hs hplain) fun σ H Q h => by
    obtain ⟨F, T, bx, s, r, t, s', e, k⟩ := h
    obtain ⟨⟨ds0, h0⟩, e⟩ := onOwn_ok e
    obtain ⟨u, s1, e1, f1⟩ := bind_ok e
    obtain ⟨l, xs0, hσ, hH, _⟩ := r.own h0
    refine ⟨.ref l, hσ, .inl ⟨rfl, xs0, .inl (.inl hH)⟩, F, T, bx, s, r, u.1, s1, by rw [bind_run, e1]; rfl, fun v bx1 H1 x1 q1 => ?_⟩
    split at f1
    · rename_i ds es hds hu
      split at f1
      · rename_i c
        cases f1
        rw [hu] at q1
        obtain ⟨b, ys, rfl, hB, hR2⟩ := q1.tup
        obtain ⟨l', xs, hσ', hH', hR⟩ := x1.rel.own hds
        rw [hσ] at hσ'; cases hσ'
        have x2 := x1.rel.mut hds hσ hH' (hR.append hR2)
        exact ⟨l, b, xs, ys, rfl, rfl, hH', hB, by rw [← hR.length, ← hR2.length]; exact c, k .non bx1 _ (x1.trans x2) (Res.old Rep.mnon)⟩
      · cases f1
    · cases f1
/-- tuple(range(n)) -/
def trg1 (m : M DB) : M DB := do
  let t ← m
  lift (match t.1 with
    | .int j => if rgOk 0 j then some (.tup (rangeD 0 (j - 0).toNat), false) else none
    | _ => none)
theorem se_tupRange1 {p2 pos2 pos : Pos} {m : M DB} (hc : X.calm = true) (hgl : Gl X "tuple") (hml : X.mg "tuple" = none) (hg : Gl X "range") (hm : X.mg "range" = none) (ha : SE X a m) (na : starEach [a] X.env = (false, eval a X.env) :: starEach [] X.env := by rfl)
    (nb : starEach [.Call (.Name "range" p2) [a] [] pos2] X.env = (false, eval (.Call (.Name "range" p2) [a] [] pos2) X.env) :: starEach [] X.env := by rfl) : SE X (.Call (.Name "tuple" p) [.Call (.Name "range" p2) [a] [] pos2] [] pos) (trg1 m) :=
  PE.weak (pe_tupRg hc hgl hml (prg_1 hg hm ha.d na) nb) fun σ H Q h => by
    obtain ⟨F, T, bx, s, r, t, s', e, k⟩ := h
    obtain ⟨d, s1, e1, e⟩ := bind_ok e
    obtain ⟨e2, rfl⟩ := lift_ok e
    refine ⟨F, T, bx, s, r, d.1, s', by rw [bind_run, e1]; rfl, fun v bx1 H1 x1 q1 => ?_⟩
    obtain ⟨dd, fr⟩ := d
    cases dd with
    | int j =>
      have e2 : (if rgOk 0 j = true then some (Pd.D.tup (rangeD 0 (j - 0).toNat), false) else none) = some t := e2
      split at e2
      · rename_i c
        cases e2
        refine ⟨j, q1.int, rgOk_ok c, fun q hq => ?_⟩
        obtain ⟨y, z⟩ := ResN.res x1.rel (Grow.new hq) (ResN.newT hq (rep_range (a := 0) (b := j)))
        exact k _ bx1 _ (x1.trans y) z
      · cases e2
    | _ => cases e2
end
end L2.Pd
set_option maxHeartbeats 4000000
namespace L2.Pd
open PySem PySem.Spec PyProof.Rows
section
variable {X : Cx} {pos : Pos}
def dnewM : M DB := pure (.dct [] [], true)
theorem se_dnew : SE X (.Dict [] [] pos) dnewM := PE.weak pe_dnewK fun σ H Q h => by
  obtain ⟨F, T, bx, s, r, t, s', e, k⟩ := h
  cases e
  intro p hp
  obtain ⟨x, q⟩ := ResN.res r (Grow.new hp) (show ResN X.K bx (Wf F s σ T) H (upd H p (.dK [])) (.dct [] [], true) (.ref p) from ⟨p, [], [], .dK [], .inr ⟨[], rfl, rfl, rfl⟩, rfl, hp, upd_same, .nil⟩)
  exact k _ bx _ x q
/-- {k: v}, k a text or an int written there -/
def dct1M (k : L2.Key) (m : M DB) : M DB := do
  let t ← m
  pure (.dct [k] [t.1], true)
theorem se_dct1 {kx vx : Expr} {kk : L2.Key} {m : M DB} (hk : PE X kx fun _ H Q => Q (kV kk) H) (hv : SE X vx m) : SE X (.Dict [some kx] [vx] pos) (dct1M kk m) :=
  PE.weak (pe_disp (pps_cons hk hv pps_nil) rfl rfl (by simp) (by simp)) fun σ H Q h => by
    obtain ⟨F, T, bx, s, r, t, s', e, k⟩ := h
    obtain ⟨u, s1, e1, e⟩ := bind_ok e
    cases e
    intro p hp
    have hpT : p ∉ T := fun z => by
      obtain ⟨_, _, _, xs, q, _⟩ := r.tmp p z
      rw [hp] at q; cases q
    have x0 : Stp X.K F T bx s σ H bx (p :: T) s σ (upd H p (.dK [])) := Stp.grow r (Grow.new hp) (fun a ha => (List.mem_cons.mp ha).elim (fun z => .inr (by subst z; exact ⟨hp, _, upd_same, .dK⟩)) .inl) (fun _ h => List.mem_cons_of_mem _ h)
    show rdT X.K m σ (upd H p (.dK [])) fun y H2 => _
    refine ⟨F, p :: T, bx, s, x0.rel, u, s', e1, fun v bx1 H1 x1 q1 => ?_⟩
    have rv := q1.rep x1
    have x1' := x1.drop
    have e2 : H1 p = some (.dK []) := x1.kt p List.mem_cons_self _ upd_same
    refine ⟨e2, [(kk, v)], rfl, by simp, ?_⟩
    have em : mergeK [] [(kk, v)] = [(kk, v)] := rfl
    rw [em]
    obtain ⟨rel5, keep5⟩ := x1'.rel.setTmp (u' := .dK [(kk, v)]) List.mem_cons_self e2 .dK .dK
    have tr5 : ∀ d w, Rep X.K bx1 (Wf F s' σ (p :: T)) H1 d w → Rep X.K bx1 (Wf F s' σ (p :: T)) (upd H1 p (.dK [(kk, v)])) d w := fun d w h => Rep.to keep5 (fun _ z => .inl z) (fun _ z => .inl z) (fun _ _ z => z) d w h
    have x2 : Stp X.K F T bx s σ H bx1 (p :: T) s' σ (upd H1 p (.dK [(kk, v)])) := by
      have y := x0.trans x1'
      refine ⟨rel5, fun d w h => tr5 d w (y.tr d w h), fun a h => y.tk a ?_, y.pre, fun a h o q => ?_, y.sub⟩
      · by_cases hb : a = p
        · rw [hb, upd_same] at h; cases h
        · rwa [upd_ne hb] at h
      · rw [upd_ne (show a ≠ p from fun z => hpT (by rw [← z]; exact h))]
        exact y.kt a h o q
    refine k (.ref p) bx1 _ x2 ⟨p, [v], [u.1], _, .inr ⟨[kk], rfl, rfl, rfl⟩, rfl, upd_same, .cons (tr5 _ _ rv) .nil, fun z => ?_, hpT⟩
    obtain ⟨j, d, z1, z2⟩ := z
    obtain ⟨b, _, _, _, _, p1, _, _, _, p2, _⟩ := rel5.ow j d z1
    rw [z2] at p1; cases p1
    exact p2 List.mem_cons_self
def repD : List D → Option DB
  | [.tup ds, .int k] => if ds.length ≠ 0 ∧ 2 ≤ k ∧ k ≤ 1000 ∧ ds.length ≤ 1000 then some (.tup (List.replicate k.toNat ds).flatten, false) else none
  | _ => none
theorem RepL.rep {K : PySem.W.Frag} {bx : Bxs} {W : Wd} {H : Hp} {ds : List D} {xs : List V} (h : RepL K bx W H ds xs) : ∀ n : Nat, RepL K bx W H (List.replicate n ds).flatten (List.replicate n xs).flatten
  | 0 => .nil
  | n + 1 => by
    rw [List.replicate_succ, List.replicate_succ, List.flatten_cons, List.flatten_cons]
    exact h.append (RepL.rep h n)
theorem op_repD : OpR X (binaryOp .Mult) (P2 X.K repD) := by
  intro pins s σ H x y v u Q I rx ry h
  obtain ⟨bx, W, ds, t, r, e, k⟩ := h
  obtain ⟨d1, d2, rfl, h1, h2⟩ := r.two
  unfold repD at e
  split at e
  · rename_i ds n z
    cases z
    split at e
    · rename_i c
      cases e
      obtain ⟨a, xs, rfl, q1, q2⟩ := h1.tup
      rw [h2.int] at ry
      have hl := q2.length
      refine op_repT pins s σ H _ _ v u Q I rx ry ⟨a, n, xs, rfl, rfl, q1, fun z => ?_, c.2.1, c.2.2.1, by rw [← hl]; exact c.2.2.2, fun p hp => ?_⟩
      · rw [z] at hl; exact c.1 hl
      · exact k _ _ (Grow.new hp) (ResN.newT hp (q2.rep n.toNat))
    · cases e
  · cases e
end
end L2.Pd
set_option maxHeartbeats 4000000
namespace L2.Pd
open PySem PySem.Spec PyProof.Rows

/-- only what answers -/
def nex {α : Type} (m : M α) : M α := fun s => match m s with
  | .ok a s' => .ok a s'
  | _ => .no
theorem nex_ok {α : Type} {m : M α} {s s' : S} {a : α} (h : nex m s = .ok a s') : m s = .ok a s' := by
  unfold nex at h
  split at h
  · rename_i e; cases h; exact e
  · cases h
theorem nex_ex {α : Type} {m : M α} {s s' : S} {e : Exn} (h : nex m s = .ex e s') : False := by
  unfold nex at h
  split at h <;> cases h
theorem bind_ex {α β : Type} {m : M α} {f : α → M β} {s s' : S} {e : Exn} (h : (m >>= f) s = .ex e s') : m s = .ex e s' ∨ ∃ a s1, m s = .ok a s1 ∧ f a s1 = .ex e s' := by
  rw [bind_run] at h
  cases q : m s with
  | ok a s1 => rw [q] at h; exact .inr ⟨a, s1, rfl, h⟩
  | ex e1 s1 => rw [q] at h; cases h; exact .inl rfl
  | no => rw [q] at h; cases h
theorem bind_exN {α β : Type} {m : M α} {f : α → M β} {s s' : S} {e : Exn} (h : (nex m >>= f) s = .ex e s') : ∃ a s1, m s = .ok a s1 ∧ f a s1 = .ex e s' := by
  rcases bind_ex h with h | ⟨a, s1, h1, h2⟩
  · exact (nex_ex h).elim
  · exact ⟨a, s1, nex_ok h1, h2⟩
theorem bind_okN {α β : Type} {m : M α} {f : α → M β} {s s' : S} {b : β} (h : (nex m >>= f) s = .ok b s') : ∃ a s1, m s = .ok a s1 ∧ f a s1 = .ok b s' := by
  obtain ⟨a, s1, h1, h2⟩ := bind_ok h
  exact ⟨a, s1, nex_ok h1, h2⟩

/-- an exception in the air is e -/
def ExR (K : PySem.W.Frag) (bx : Bxs) (W : Wd) (H : Hp) (e : Exn) (cls : Value) (d : Option Addr) : Prop :=
  cls = .ref (He.ga K e.cls) ∧ e.ns.length = e.ds.length ∧ ∃ xs, RepL K bx W H e.ds xs ∧ ((d = none ∧ e.ns = []) ∨ ∃ a, d = some a ∧ Rd H a (.xd (e.ns.zip xs)))
theorem ExR.less {K : PySem.W.Frag} {bx : Bxs} {W W' : Wd} {H : Hp} {e : Exn} {cls : Value} {d : Option Addr} (w : ∀ a, W' a → W a) (h : ExR K bx W H e cls d) : ExR K bx W' H e cls d := by
  obtain ⟨h1, h2, xs, h3, h4⟩ := h
  exact ⟨h1, h2, xs, h3.less w, h4⟩

def rdSx (K : PySem.W.Frag) (W : WX) (m : M Fl) : TS := fun D σ H => ∃ F T bx s, Rel K F bx T s σ H ∧ ((∃ fl s', m s = .ok fl s' ∧ match fl with
  | .nx => ∀ bx' σ' H', Stp K F T bx s σ H bx' T s' σ' H' → D.nx σ' H'
  | .bk => ∀ bx' σ' H', Stp K F T bx s σ H bx' T s' σ' H' → D.bk σ' H'
  | .ct => ∀ bx' σ' H', Stp K F T bx s σ H bx' T s' σ' H' → D.ct σ' H'
  | .rt t => ∀ v bx' σ' H', Stp K F T bx s σ H bx' (tmpOf t v T) s' σ' H' → Res K F T bx' s' σ' H' t v → D.rt v H') ∨
  ∃ e s', m s = .ex e s' ∧ ∀ cls d bx' σ' H', Stp K F T bx s σ H bx' T s' σ' H' → ExR K bx' (Wf F s' σ' T) H' e cls d → W cls d σ' H')
def rdTx (K : PySem.W.Frag) (W : WX) (m : M DB) : TE := fun σ H Q => ∃ F T bx s, Rel K F bx T s σ H ∧ ((∃ t s', m s = .ok t s' ∧
  ∀ v bx' H', Stp K F T bx s σ H bx' (tmpOf t v T) s' σ H' → Res K F T bx' s' σ H' t v → Q v H') ∨
  ∃ e s', m s = .ex e s' ∧ ∀ cls d bx' H', Stp K F T bx s σ H bx' T s' σ H' → ExR K bx' (Wf F s' σ T) H' e cls d → W cls d σ H')
def SX (W : WX) (X : Cx) (e : Stmt) (m : M Fl) : Prop := PS X e (rdSx X.K W m)
def SXs (W : WX) (X : Cx) (e : List Stmt) (m : M Fl) : Prop := PSs X e (rdSx X.K W m)
def SEX (W : WX) (X : Cx) (e : Expr) (m : M DB) : Prop := PE X e (rdTx X.K W m)

section
variable {X : Cx} {W : WX} {a b c : Expr} {ma mb : M DB} {na : M Bool} {st : Stmt} {rest A B : List Stmt} {m m1 m2 : M Fl} {pos : Pos}
theorem rdSx.nex {K : PySem.W.Frag} {D : Ends} {σ : St} {H : Hp} (h : rdSx K W (nex m) D σ H) : rdS K m D σ H := by
  obtain ⟨F, T, bx, s, r, ⟨fl, s', e, k⟩ | ⟨e, s', z, _⟩⟩ := h
  · exact ⟨F, T, bx, s, r, fl, s', nex_ok e, k⟩
  · exact (nex_ex z).elim
theorem rdTx.nex {K : PySem.W.Frag} {Q : VK} {σ : St} {H : Hp} (h : rdTx K W (nex ma) σ H Q) : rdT K ma σ H Q := by
  obtain ⟨F, T, bx, s, r, ⟨fl, s', e, k⟩ | ⟨e, s', z, _⟩⟩ := h
  · exact ⟨F, T, bx, s, r, fl, s', nex_ok e, k⟩
  · exact (nex_ex z).elim
theorem sx_nex (h : SS X st m) : SX W X st (nex m) := PS.weak h fun _ _ _ q => q.nex
theorem sxs_nex (h : SSs X rest m) : SXs W X rest (nex m) := PSs.weak h fun _ _ _ q => q.nex
theorem sex_nex (h : SE X a ma) : SEX W X a (nex ma) := PE.weak h fun _ _ _ q => q.nex
theorem rdS.sx {K : PySem.W.Frag} {D : Ends} {σ : St} {H : Hp} (h : rdS K m D σ H) : rdSx K W m D σ H := by
  obtain ⟨F, T, bx, s, r, fl, s', e, k⟩ := h
  exact ⟨F, T, bx, s, r, .inl ⟨fl, s', e, k⟩⟩
theorem ss_of (h : SX W X st m) : SS X st m := PS.weak h fun _ _ _ q => q.sx

theorem rdSx.seq {K : PySem.W.Frag} {D : Ends} {σ : St} {H : Hp} (h : rdSx K W (seqM m1 m2) D σ H) : rdSx K W m1 { D with nx := rdSx K W m2 D } σ H := by
  obtain ⟨F, T, bx, s, r, ⟨fl, s', e, k⟩ | ⟨ee, s', e, k⟩⟩ := h
  · obtain ⟨f, s1, e1, e⟩ := bind_ok e
    cases f with
    | nx =>
      refine ⟨F, T, bx, s, r, .inl ⟨.nx, s1, e1, fun bx1 σ1 H1 x1 => ⟨F, T, bx1, s1, x1.rel, .inl ⟨fl, s', e, ?_⟩⟩⟩⟩
      cases fl with
      | nx => exact fun bx2 σ2 H2 x2 => k bx2 σ2 H2 (x1.trans x2)
      | bk => exact fun bx2 σ2 H2 x2 => k bx2 σ2 H2 (x1.trans x2)
      | ct => exact fun bx2 σ2 H2 x2 => k bx2 σ2 H2 (x1.trans x2)
      | rt t => exact fun v bx2 σ2 H2 x2 q => k v bx2 σ2 H2 (x1.trans x2) q
    | rt t => cases e; exact ⟨F, T, bx, s, r, .inl ⟨.rt t, _, e1, k⟩⟩
    | bk => cases e; exact ⟨F, T, bx, s, r, .inl ⟨.bk, _, e1, k⟩⟩
    | ct => cases e; exact ⟨F, T, bx, s, r, .inl ⟨.ct, _, e1, k⟩⟩
  · rcases bind_ex e with e | ⟨f, s1, e1, e⟩
    · exact ⟨F, T, bx, s, r, .inr ⟨ee, s', e, k⟩⟩
    · cases f with
      | nx => exact ⟨F, T, bx, s, r, .inl ⟨.nx, s1, e1, fun bx1 σ1 H1 x1 => ⟨F, T, bx1, s1, x1.rel, .inr ⟨ee, s', e, fun cls d bx2 σ2 H2 x2 q => k cls d bx2 σ2 H2 (x1.trans x2) q⟩⟩⟩⟩
      | rt t => cases e
      | bk => cases e
      | ct => cases e
theorem sxs_cons (h1 : SX W X st m1) (h2 : SXs W X rest m2) : SXs W X (st :: rest) (seqM m1 m2) := PSs.weak (pss_cons h1 h2) fun _ _ _ h => h.seq
theorem sxs_one (h1 : SX W X st m1) : SXs W X [st] m1 := pss_one h1
theorem sxs_nil : SXs W X [] (nex (pure .nx)) := sxs_nex sss_nil
theorem rdSx.ite {K : PySem.W.Frag} {D : Ends} {σ : St} {H : Hp} (h : rdSx K W (ifM (Pd.nex na) m1 m2) D σ H) : tIfS (rdB K na) (rdSx K W m1) (rdSx K W m2) D σ H := by
  obtain ⟨F, T, bx, s, r, ⟨fl, s', e, k⟩ | ⟨ee, s', e, k⟩⟩ := h
  · obtain ⟨c, s1, e1, e⟩ := bind_okN e
    refine ⟨F, T, bx, s, r, c, s1, e1, fun bx1 H1 x1 => ?_⟩
    cases c with
    | true =>
      refine ⟨F, T, bx1, s1, x1.rel, .inl ⟨fl, s', e, ?_⟩⟩
      cases fl with
      | nx => exact fun bx2 σ2 H2 x2 => k bx2 σ2 H2 (x1.trans x2)
      | bk => exact fun bx2 σ2 H2 x2 => k bx2 σ2 H2 (x1.trans x2)
      | ct => exact fun bx2 σ2 H2 x2 => k bx2 σ2 H2 (x1.trans x2)
      | rt t => exact fun v bx2 σ2 H2 x2 q => k v bx2 σ2 H2 (x1.trans x2) q
    | false =>
      refine ⟨F, T, bx1, s1, x1.rel, .inl ⟨fl, s', e, ?_⟩⟩
      cases fl with
      | nx => exact fun bx2 σ2 H2 x2 => k bx2 σ2 H2 (x1.trans x2)
      | bk => exact fun bx2 σ2 H2 x2 => k bx2 σ2 H2 (x1.trans x2)
      | ct => exact fun bx2 σ2 H2 x2 => k bx2 σ2 H2 (x1.trans x2)
      | rt t => exact fun v bx2 σ2 H2 x2 q => k v bx2 σ2 H2 (x1.trans x2) q
  · obtain ⟨c, s1, e1, e⟩ := bind_exN e
    refine ⟨F, T, bx, s, r, c, s1, e1, fun bx1 H1 x1 => ?_⟩
    cases c with
    | true => exact ⟨F, T, bx1, s1, x1.rel, .inr ⟨ee, s', e, fun cls d bx2 σ2 H2 x2 q => k cls d bx2 σ2 H2 (x1.trans x2) q⟩⟩
    | false => exact ⟨F, T, bx1, s1, x1.rel, .inr ⟨ee, s', e, fun cls d bx2 σ2 H2 x2 q => k cls d bx2 σ2 H2 (x1.trans x2) q⟩⟩
theorem sx_if (hc : SB X c na) (h1 : SXs W X A m1) (h2 : SXs W X B m2) : SX W X (.If c A B pos) (ifM (Pd.nex na) m1 m2) := PS.weak (ps_if hc h1 h2) fun _ _ _ h => h.ite
theorem sex_ife (hc : SB X c na) (ha : SEX W X a ma) (hb : SEX W X b mb) : SEX W X (.IfExp c a b pos) (ife (Pd.nex na) ma mb) := PE.weak (pe_ifExp hc ha hb) fun σ H Q h => by
  obtain ⟨F, T, bx, s, r, ⟨t, s', e, k⟩ | ⟨ee, s', e, k⟩⟩ := h
  · obtain ⟨x, s1, e1, e⟩ := bind_okN e
    refine ⟨F, T, bx, s, r, x, s1, e1, fun bx1 H1 x1 => ?_⟩
    cases x with
    | true => exact ⟨F, T, bx1, s1, x1.rel, .inl ⟨t, s', e, fun v bx2 H2 x2 => k v bx2 H2 (x1.trans x2)⟩⟩
    | false => exact ⟨F, T, bx1, s1, x1.rel, .inl ⟨t, s', e, fun v bx2 H2 x2 => k v bx2 H2 (x1.trans x2)⟩⟩
  · obtain ⟨x, s1, e1, e⟩ := bind_exN e
    refine ⟨F, T, bx, s, r, x, s1, e1, fun bx1 H1 x1 => ?_⟩
    cases x with
    | true => exact ⟨F, T, bx1, s1, x1.rel, .inr ⟨ee, s', e, fun cls d bx2 H2 x2 q => k cls d bx2 H2 (x1.trans x2) q⟩⟩
    | false => exact ⟨F, T, bx1, s1, x1.rel, .inr ⟨ee, s', e, fun cls d bx2 H2 x2 q => k cls d bx2 H2 (x1.trans x2) q⟩⟩
theorem sx_ret (ha : SEX W X a ma) : SX W X (.Return (some a) pos) (ret ma) := PS.weak (ps_ret ha) fun D σ H h => by
  obtain ⟨F, T, bx, s, r, ⟨fl, s', e, k⟩ | ⟨ee, s', e, k⟩⟩ := h
  · obtain ⟨t, s1, e1, e⟩ := bind_ok e
    cases e
    exact ⟨F, T, bx, s, r, .inl ⟨t, _, e1, fun v bx' H' x q => k v bx' σ H' x q⟩⟩
  · rcases bind_ex e with e | ⟨t, s1, e1, e⟩
    · exact ⟨F, T, bx, s, r, .inr ⟨ee, s', e, fun cls d bx' H' x q => k cls d bx' σ H' x q⟩⟩
    · cases e
theorem sx_drp (ha : SEX W X a ma) (hs : swapsWith a none pos.line X.env = pure false := by rfl) : SX W X (.Expr a pos) (drp ma) := PS.weak (ps_expr ha hs) fun D σ H h => by
  obtain ⟨F, T, bx, s, r, ⟨fl, s', e, k⟩ | ⟨ee, s', e, k⟩⟩ := h
  · obtain ⟨t, s1, e1, e⟩ := bind_ok e
    cases e
    exact ⟨F, T, bx, s, r, .inl ⟨t, _, e1, fun v bx' H' x q => k bx' σ H' x.drop⟩⟩
  · rcases bind_ex e with e | ⟨t, s1, e1, e⟩
    · exact ⟨F, T, bx, s, r, .inr ⟨ee, s', e, fun cls d bx' H' x q => k cls d bx' σ H' x q⟩⟩
    · cases e
theorem putv_ex {i : Nat} {t : DB} {s s' : S} {e : Exn} (h : putv i t s = .ex e s') : False := by
  unfold putv at h
  split at h <;> cases h
theorem sx_set {i : Nat} {x : Str} {pos' : Pos} (hN : X.N.Nodup) (hi : X.N[i]? = some x) (hx : Loc X.env.scope x) (he : SEX W X a ma) (hs : swapsWith a (some (.Name x pos')) pos.line X.env = pure false := by rfl)
    (hf : X.fn x = true ∨ X.env.scope.names.lookup x = some .local := by first | exact .inl rfl | exact .inr rfl | assumption) : SX W X (.Assign [.Name x pos'] a pos) (setv i ma) :=
  PS.weak (ps_set hN hi hx he hs hf) fun D σ H h => by
    obtain ⟨F, T, bx, s, r, ⟨fl, s', e, k⟩ | ⟨ee, s', e, k⟩⟩ := h
    · obtain ⟨t, s1, e1, e⟩ := bind_ok e
      obtain ⟨rfl, hlt, rfl⟩ := putv_ok e
      exact ⟨F, T, bx, s, r, .inl ⟨t, s1, e1, fun v bx' H' x q => k bx' _ H' (x.put q hlt)⟩⟩
    · rcases bind_ex e with e | ⟨t, s1, e1, e⟩
      · exact ⟨F, T, bx, s, r, .inr ⟨ee, s', e, fun cls d bx' H' x q => k cls d bx' σ H' x q⟩⟩
      · exact (putv_ex e).elim
def raise0 (c : Str) : M Fl := fun s => .ex ⟨c, [], []⟩ s
def raise1 (c f : Str) (mr : M (List D)) : M Fl := do
  let ds ← nex mr
  fun s => match ds with
    | [d] => .ex ⟨c, [f], [d]⟩ s
    | _ => .no
theorem sx_raise0 {bmB : List Value} {Bs newId initId : String} {x m : Str} {j : Nat} {p p2 pos2 : Pos} (hc : X.calm = true) (tk : Takes X W) (F : ExcBaseFacts Bs newId initId bmB) (q : PySem.W.excIn X.K (He.ga X.K x) bmB newId = true) (gC : X.mg x = some (.ref (He.ga X.K x))) (kC : PySem.W.keepIn X.K (.ref (He.ga X.K x)) = true)
    (r : Raises X (.ref (He.ga X.K x))) (hg : Gl X x) (hdb : (x == ("__debug__" : Str)) = false := by decide) : SX W X (.Raise (some (.Call (.Name x p) [.Constant (.str m) j p2] [] pos)) none pos2) (raise0 x) :=
  PS.weak (ps_raise hc tk (pmk_own F q gC kC r hg hdb)) fun D σ H h => by
    obtain ⟨F, T, bx, s, r, ⟨fl, s', e, k⟩ | ⟨ee, s', e, k⟩⟩ := h
    · cases e
    · cases e
      exact k _ _ bx σ H (Stp.refl r) ⟨rfl, rfl, [], .nil, .inl ⟨rfl, rfl⟩⟩
end

def spX (K : PySem.W.Frag) (n : Nat) (fn : Fn) : Sp := fun vs H Q E => vs.length = n ∧ ∃ (bx : Bxs) (W : Wd) (ds : List D) (st : List (List Int)), RepL K bx W H ds vs ∧ Boxes K bx st H ∧ (∀ a ∈ bx, ¬ W a) ∧ (∀ a, W a → H a ≠ none) ∧
  ((∃ t st', fn ds st = .ok t st' ∧ ∀ v bx' H', Aft K bx W H t bx' st' H' v → Q v H') ∨
    ∃ e st', fn ds st = .ex e st' ∧ ∀ cls d bx' H', Aft K bx W H (.non, false) bx' st' H' .non → ExR K bx' W H' e cls d → E cls d H')
def ArX (fn : Fn) (n : Nat) : Prop := ∀ ds st e st', fn ds st = .ex e st' → ds.length = n
theorem mkFn_arx {p n : Nat} {m : M Fl} : ArX (mkFn p n m) p := fun ds st t st' h => by
  unfold mkFn at h
  split at h
  · assumption
  · cases h
section
variable {X : Cx} {W : WX}
theorem calledX {k : Nat} {f : Addr} {fd : FuncData} {ps : List Str} {sp : Sp} {pins : List (Addr × Obj)} {σ : St} {H : Hp} {s : Shared} {Q : VK} {given us : List Value} {kw : List (Str × Value)} {vs : List V} (tk : Takes X W)
    (F : FnOkG X.prog X.w X.K X.mg X.base (L2.CX X.prog X.w) k f fd ps sp) (hgd : X.A.guards = some []) (hr : Room k X.A) (I : Inv X pins σ H s) (bt : BindsTo s fd ⟨given, kw⟩ (ps.zip us)) (r : Vals vs us) (h : sp vs H Q (WE W σ)) :
    wpAny (model X.prog X.w) X.A (call (.ref f) given kw) (EP X pins σ Q) X.xe s := by
  apply wpAny_call
  refine codeAny_mono (F.runs hgd hr I.env0 bt r h) ?_
  intro out t q
  match out, q with
  | .ok (.ret u), q => exact I.after q
  | .ok .next, q => exact q.elim
  | .ok .brk, q => exact q.elim
  | .ok .cont, q => exact q.elim
  | .error e, q => exact passAt tk σ pins H s e t I q
structure DefX (P : Program) (w : World) (K : PySem.W.Frag) (mg : Str → Option Value) (base : Heap) (x : Str) (k n : Nat) (fn : Fn) (dd : List D) : Prop where
  ex : ∃ (f : Addr) (fd : FuncData) (ps : List Str) (ds : List Value) (dvs : List V), FnOkG P w K mg base (L2.CX P w) k f fd ps (spX K n fn) ∧ mg x = some (.ref f) ∧ PySem.W.keepIn K (.ref f) = true ∧ Binds K fd ps ds ∧ Vals dvs ds ∧ ∀ bx W H, RepL K bx W H dd dvs
  ar : Ar fn n
  arx : ArX fn n
variable {x : Str} {k n : Nat} {fn : Fn} {dd : List D} {e : Expr} {es : List Expr} {mr : M (List D)} {p pos : Pos}
/-- arguments, the promise -/
theorem spX_of {K : PySem.W.Frag} {F : Fm} {T : List Addr} {bx : Bxs} {s1 : S} {σ : St} {H1 : Hp} {Q : VK} {ds : List D} {vs : List V} (hn : Ar fn n) (hx : ArX fn n) (r : Rel K F bx T s1 σ H1) (q2 : RepL K bx (Wf F s1 σ T) H1 ds vs)
    (h : (∃ t s', runF fn ds s1 = .ok t s' ∧ ∀ v bx' H', Stp K F T bx s1 σ H1 bx' (tmpOf t v T) s' σ H' → Res K F T bx' s' σ H' t v → Q v H') ∨
      ∃ e s', runF fn ds s1 = .ex e s' ∧ ∀ cls d bx' H', Stp K F T bx s1 σ H1 bx' T s' σ H' → ExR K bx' (Wf F s' σ T) H' e cls d → W cls d σ H') : spX K n fn vs H1 Q (WE W σ) := by
  have nw : ∀ a ∈ bx, ¬ Wf F s1 σ T a := fun a ha z => by
    rcases z with z | ⟨i, d, z1, z2⟩ | z
    · exact r.wb a ha z
    · obtain ⟨b, _, _, _, _, p1, _, _, _, _, p2, _⟩ := r.ow i d z1
      rw [z2] at p1; cases p1
      exact p2 ha
    · exact (r.tmp a z).2.1 ha
  rcases h with ⟨t, s', ef, k⟩ | ⟨e, s', ef, k⟩
  · unfold runF at ef
    cases q : fn ds s1.st with
    | ok t' st' =>
      rw [q] at ef
      cases ef
      refine ⟨by rw [← q2.length]; exact hn _ _ _ _ q, bx, Wf F s1 σ T, ds, s1.st, q2, r.box, nw, fun a => r.wSome, .inl ⟨_, st', q, fun v bx2 H2 y => ?_⟩⟩
      obtain ⟨x2, q3⟩ := r.call y
      exact k v bx2 H2 x2 q3
    | ex _ _ => rw [q] at ef; cases ef
    | no => rw [q] at ef; cases ef
  · unfold runF at ef
    cases q : fn ds s1.st with
    | ex e' st' =>
      rw [q] at ef
      cases ef
      refine ⟨by rw [← q2.length]; exact hx _ _ _ _ q, bx, Wf F s1 σ T, ds, s1.st, q2, r.box, nw, fun a => r.wSome, .inr ⟨_, st', q, fun cls d bx2 H2 y z => ?_⟩⟩
      obtain ⟨x2, q3⟩ := r.call y
      exact k cls d bx2 H2 x2 (z.less fun a w => w)
    | ok _ _ => rw [q] at ef; cases ef
    | no => rw [q] at ef; cases ef
theorem rdFx {K : PySem.W.Frag} {σ : St} {H : Hp} {Q : VK} {dvs : List V} (hd : ∀ bx W H, RepL K bx W H dd dvs) (hn : Ar fn n) (hx : ArX fn n) (h : rdTx K W (callF fn dd (nex mr)) σ H Q) : rdA K mr σ H fun vs H1 => spX K n fn (vs ++ dvs) H1 Q (WE W σ) := by
  obtain ⟨F, T, bx, s, r, ⟨t, s', e, k⟩ | ⟨ee, s', e, k⟩⟩ := h
  · obtain ⟨ds, s1, e1, e⟩ := bind_okN e
    refine ⟨F, T, bx, s, r, ds, s1, e1, fun vs bx1 H1 x1 q1 => ?_⟩
    exact spX_of hn hx x1.rel (q1.append (hd bx1 (Wf F s1 σ T) H1)) (.inl ⟨t, s', e, fun v bx2 H2 x2 q3 => k v bx2 H2 (x1.trans x2) q3⟩)
  · obtain ⟨ds, s1, e1, e⟩ := bind_exN e
    refine ⟨F, T, bx, s, r, ds, s1, e1, fun vs bx1 H1 x1 q1 => ?_⟩
    exact spX_of hn hx x1.rel (q1.append (hd bx1 (Wf F s1 σ T) H1)) (.inr ⟨ee, s', e, fun cls d bx2 H2 x2 q3 => k cls d bx2 H2 (x1.trans x2) q3⟩)
theorem sex_call (tk : Takes X W) (G : DefX X.prog X.w X.K X.mg X.base x k n fn dd) (hgd : X.A.guards = some []) (hr : Room k X.A) (hg : Gl X x) (ha : SA X (e :: es) mr) (hdb : (x == ("__debug__" : Str)) = false := by decide)
    (he : starEach (e :: es) X.env = (false, eval e X.env) :: starEach es X.env := by rfl) (hpl : (backTo pos (starEach es X.env)).any (·.1) = false := by rfl) : SEX W X (.Call (.Name x p) (e :: es) [] pos) (callF fn dd (nex mr)) := by
  obtain ⟨f, fd, ps, ds, dvs, F, hm, hk, hb, hd, hdd⟩ := G.ex
  constructor
  intro pins s σ H Q I h
  apply wpAny_Call_Name_kw
  apply ld_glob I hg hm _ hdb
  refine PySem.W.callWith_K I.ok.mod.kin hk ?_ he hpl
  refine thn (ha.run pos pins s σ H _ I (rdFx hdd G.ar G.arx h)) ?_
  rintro us t ⟨vs, H1, J, r, q⟩
  have both := r.append hd
  exact ⟨J.kIn, calledX tk F hgd hr J (hb t us J.kIn (by rw [← both.length]; exact F.arity q)) both q⟩
end
section
variable {P : Program} {w : World} {K : PySem.W.Frag} {mg : Str → Option Value} {base : Heap}
theorem fnokX {x qual : Str} {params : Arguments} {body : List Stmt} {scope : Scope} {dvs : List V} {kws : List (Str × V)} {f : Addr} {fd : FuncData} {N ps : List Str} {k : Nat} {m : M Fl} (Fd : FunD K x qual params body scope dvs kws f fd) (S : FnScope N ps scope)
    (hbody : ∀ (cdv : Value) (A : Around) (outer : List Env) (s : Shared) (H : Hp) (E : XK), fd.code = cdv → (A.deeper (envOfC qual scope s.heap.objs.size f cdv)).guards = some [] → Room k (A.deeper (envOfC qual scope s.heap.objs.size f cdv)) →
      Takes (cxOf (L2.CX P w) P w K mg base N qual scope f cdv A outer s H E) (fun cls d _ H => E cls d H) →
      SXs (fun cls d _ H => E cls d H) (cxOf (L2.CX P w) P w K mg base N qual scope f cdv A outer s H E) body m) : FnOkG P w K mg base (L2.CX P w) (k + 1) f fd ps (spX K ps.length (mkFn ps.length N.length m)) := by
  obtain ⟨oc, od, dV, kV, doc, pm, an, cdv, ct, osl, rfl, lk, hcd, _, _⟩ := Fd.ex
  refine ⟨fun h => h.1, fun {A outer s H args us vs Q E} hgd hr e0 bt rv h => entered lk hcd S hr e0 bt rv h.1 (hbody cdv A outer s H E rfl hgd (hr.deeper _) (takes_of rfl rfl rfl rfl)) ?_⟩
  obtain ⟨hl, bx, W, ds, st, r, B, h1, h2, hh⟩ := h
  refine ⟨⟨W, H, bx⟩, [], bx, _, rel_start (n := N.length) rfl r B h1 h2, ?_⟩
  rcases hh with ⟨t, st', e, kk⟩ | ⟨t, st', e, kk⟩
  · unfold mkFn at e
    rw [if_pos (r.length.trans hl)] at e
    cases q : m ⟨ds.map (fun d => some (d, false)) ++ List.replicate (N.length - ds.length) none, st⟩ with
    | ok fl s' =>
      rw [q] at e
      refine .inl ⟨fl, s', rfl, ?_⟩
      cases fl with
      | rt t' =>
        cases e
        exact fun v bx' σ' H' x q => kk v bx' H' (aft_of x q)
      | nx =>
        cases e
        exact fun bx' σ' H' x => kk .non bx' H' (aft_of (t := (.non, false)) x (Res.old Rep.mnon))
      | bk => cases e
      | ct => cases e
    | ex _ _ => rw [q] at e; cases e
    | no => rw [q] at e; cases e
  · unfold mkFn at e
    rw [if_pos (r.length.trans hl)] at e
    cases q : m ⟨ds.map (fun d => some (d, false)) ++ List.replicate (N.length - ds.length) none, st⟩ with
    | ok fl s' =>
      rw [q] at e
      cases fl <;> cases e
    | ex ee s' =>
      rw [q] at e
      cases e
      exact .inr ⟨_, s', rfl, fun cls d bx' σ' H' x z => kk cls d bx' H' (aft_of (t := (.non, false)) x (Res.old Rep.mnon)) (z.less fun a w => .inl w)⟩
    | no => rw [q] at e; cases e
end
end L2.Pd
set_option maxHeartbeats 4000000
namespace L2.Pd
open PySem PySem.Spec PyProof.Rows

/-- what an outcome asks -/
def PostX (K : PySem.W.Frag) (F : Fm) (T : List Addr) (bx : Bxs) (s : S) (σ : St) (H : Hp) (W : WX) (D : Ends) : R Fl → Prop
  | .ok .nx s' => ∀ bx' σ' H', Stp K F T bx s σ H bx' T s' σ' H' → D.nx σ' H'
  | .ok .bk s' => ∀ bx' σ' H', Stp K F T bx s σ H bx' T s' σ' H' → D.bk σ' H'
  | .ok .ct s' => ∀ bx' σ' H', Stp K F T bx s σ H bx' T s' σ' H' → D.ct σ' H'
  | .ok (.rt t) s' => ∀ v bx' σ' H', Stp K F T bx s σ H bx' (tmpOf t v T) s' σ' H' → Res K F T bx' s' σ' H' t v → D.rt v H'
  | .ex e s' => ∀ cls d bx' σ' H', Stp K F T bx s σ H bx' T s' σ' H' → ExR K bx' (Wf F s' σ' T) H' e cls d → W cls d σ' H'
  | .no => False
section
variable {K : PySem.W.Frag} {W : WX} {m : M Fl} {D D' : Ends} {F : Fm} {T : List Addr} {bx bx0 : Bxs} {s s0 : S} {σ σ0 : St} {H H0 : Hp}
theorem rdSx.post (h : rdSx K W m D σ H) : ∃ F T bx s, Rel K F bx T s σ H ∧ PostX K F T bx s σ H W D (m s) := by
  obtain ⟨F, T, bx, s, r, ⟨fl, s', e, k⟩ | ⟨ee, s', e, k⟩⟩ := h
  · refine ⟨F, T, bx, s, r, ?_⟩
    rw [e]
    cases fl <;> exact k
  · refine ⟨F, T, bx, s, r, ?_⟩
    rw [e]
    exact k
theorem rdSx.of (r : Rel K F bx T s σ H) (h : PostX K F T bx s σ H W D (m s)) : rdSx K W m D σ H := by
  cases e : m s with
  | ok fl s' =>
    rw [e] at h
    refine ⟨F, T, bx, s, r, .inl ⟨fl, s', e, ?_⟩⟩
    cases fl <;> exact h
  | ex ee s' =>
    rw [e] at h
    exact ⟨F, T, bx, s, r, .inr ⟨ee, s', e, h⟩⟩
  | no => rw [e] at h; exact h.elim
theorem PostX.back (x : Stp K F T bx0 s0 σ0 H0 bx T s σ H) : ∀ {r : R Fl}, PostX K F T bx0 s0 σ0 H0 W D r → PostX K F T bx s σ H W D r
  | .ok .nx _, k => fun bx2 σ2 H2 x2 => k bx2 σ2 H2 (x.trans x2)
  | .ok .bk _, k => fun bx2 σ2 H2 x2 => k bx2 σ2 H2 (x.trans x2)
  | .ok .ct _, k => fun bx2 σ2 H2 x2 => k bx2 σ2 H2 (x.trans x2)
  | .ok (.rt _) _, k => fun v bx2 σ2 H2 x2 q => k v bx2 σ2 H2 (x.trans x2) q
  | .ex _ _, k => fun cls d bx2 σ2 H2 x2 q => k cls d bx2 σ2 H2 (x.trans x2) q
  | .no, k => k
theorem bind_eq {α β : Type} {m : M α} {f : α → M β} {s : S} {r : R β} (h : (m >>= f) s = r) (hn : r ≠ .no) : (∃ a s1, m s = .ok a s1 ∧ f a s1 = r) ∨ ∃ e s1, m s = .ex e s1 ∧ r = .ex e s1 := by
  rw [bind_run] at h
  cases q : m s with
  | ok a s1 => rw [q] at h; exact .inl ⟨a, s1, rfl, h⟩
  | ex e s1 => rw [q] at h; exact .inr ⟨e, s1, rfl, h.symm⟩
  | no => rw [q] at h; exact absurd h.symm hn
theorem bind_eqN {α β : Type} {m : M α} {f : α → M β} {s : S} {r : R β} (h : (nex m >>= f) s = r) (hn : r ≠ .no) : ∃ a s1, m s = .ok a s1 ∧ f a s1 = r := by
  rcases bind_eq h hn with ⟨a, s1, h1, h2⟩ | ⟨e, s1, h1, _⟩
  · exact ⟨a, s1, nex_ok h1, h2⟩
  · exact (nex_ex h1).elim
theorem rdSx.for_ {ws : List Nat} {mi : M (List Pd.D)} {g : Pd.D → M Unit} {b : M Fl} (h : rdSx K W (forM' (Pd.nex mi) (fun d => Pd.nex (g d)) b) D σ H) : tFor (rdI K mi) (rdG K g ws) (rdSx K W b) D σ H := by
  obtain ⟨F, T, bx, s, r, k⟩ := h.post
  have hn : forM' (Pd.nex mi) (fun d => Pd.nex (g d)) b s ≠ .no := fun z => by rw [z] at k; exact k
  obtain ⟨ds, s1, e1, e⟩ := bind_eqN (r := forM' (Pd.nex mi) (fun d => Pd.nex (g d)) b s) rfl hn
  generalize forM' (Pd.nex mi) (fun d => Pd.nex (g d)) b s = rr at k hn e
  refine ⟨F, T, bx, s, r, ds, s1, e1, fun J bx1 H1 x1 y => ?_⟩
  replace k := k.back x1
  refine ⟨fun i m σi Hi => i ≤ ds.length ∧ m = ds.length - i ∧ ∃ bxi si, Stp K F T bx1 s1 σ H1 bxi T si σi Hi ∧ forL (fun d => Pd.nex (g d)) b (ds.drop i) si = rr, ⟨ds.length, Nat.zero_le _, by simp, bx1, s1, Stp.refl x1.rel, by simpa using e⟩, ?_⟩
  rintro i m σi Hi ⟨hi, rfl, bxi, si, xi, ei⟩
  obtain ⟨yg, ys⟩ := y bxi (Wf F si σi T) Hi xi.tr xi.rel.fz
  by_cases hlt : i < ds.length
  · obtain ⟨yg1, yg2⟩ := yg i hlt
    refine .inr ⟨yg1, fun σ' H' => ∃ bx' s2, Stp K F T bx1 s1 σ H1 bx' T s2 σ' H' ∧ forL (fun d => Pd.nex (g d)) b (ds.drop (i + 1)) s2 = rr, fun σ' H' ⟨bx', s2, x2, e2⟩ => ⟨ds.length - (i + 1), by omega, hlt, rfl, bx', s2, x2, e2⟩, fun x H' hy => ?_⟩
    obtain ⟨gr, rep⟩ := yg2 x H' hy
    have hd : ds[i]? = some ds[i] := List.getElem?_eq_getElem hlt
    have rp := rep _ hd
    rw [List.drop_eq_getElem_cons hlt] at ei
    obtain ⟨_, sg, eg, ei⟩ := bind_eqN (m := g ds[i]) ei hn
    have xg : Stp K F T bxi si σi Hi bxi T si σi H' := Stp.grow xi.rel gr (fun _ z => .inl z) (fun _ z => z)
    refine ⟨F, T, bxi, si, ds[i], xg.rel, rp, sg, eg, fun bx2 σ2 H2 x2 _ _ => ?_⟩
    have xx := (xi.trans xg).trans x2
    refine rdSx.of x2.rel ?_
    rcases bind_eq ei hn with ⟨f, sb, eb, ei⟩ | ⟨ee, sb, eb, rfl⟩
    · rw [eb]
      cases f with
      | nx => exact fun bx3 σ3 H3 x3 => ⟨bx3, sb, xx.trans x3, ei⟩
      | ct => exact fun bx3 σ3 H3 x3 => ⟨bx3, sb, xx.trans x3, ei⟩
      | bk => cases ei; exact fun bx3 σ3 H3 x3 => k bx3 σ3 H3 (xx.trans x3)
      | rt t => cases ei; exact fun v bx3 σ3 H3 x3 q => k v bx3 σ3 H3 (xx.trans x3) q
    · rw [eb]
      exact fun cls d bx3 σ3 H3 x3 q => k cls d bx3 σ3 H3 (xx.trans x3) q
  · have e : i = ds.length := by omega
    subst e
    rw [List.drop_length] at ei
    cases ei
    exact .inl ⟨ys, k bxi σi Hi xi⟩
end
section
variable {X : Cx} {W : WX} {tg iter : Expr} {body : List Stmt} {mi : M (List D)} {g : D → M Unit} {b : M Fl} {pos : Pos} {ws : List Nat} {st : Stmt} {m : M Fl}
theorem sx_for (hp : PassesOwn (model X.prog X.w) X.A X.env X.xe) (hc : X.calm = true) (hi : SI X tg iter mi) (hg : SG X tg g ws) (hb : SXs W X body b)
    (hs : ∀ x, foldedSetIterable iter X.env x = pure x := by intro _; rfl) : SX W X (.For tg iter body [] pos) (forM' (nex mi) (fun d => nex (g d)) b) := PS.weak (ps_for hp hc hi hg hb hs) fun _ _ _ h => h.for_
theorem PS.nox {t : TS} (h : PS X.nox st t) : PS X st t := ⟨fun pins s σ H D I hw =>
  wpAny_mono (h.run pins s σ H D (I.wish _) hw) (fun _ _ q => q.unwish) fun _ _ z => False.elim z⟩
theorem sx_nexN (h : SS X.nox st m) : SX W X st (nex m) := sx_nex (PS.nox h)
theorem sxs_nexN (h : SSs X.nox body m) : SXs W X body (nex m) := sxs_nex (PSs.nox h)
theorem sex_nexN {a : Expr} {ma : M DB} (h : SE X.nox a ma) : SEX W X a (nex ma) := sex_nex (PE.nox h)
theorem passesX {CX : Value → Shared → Prop} {E₁ : Value → Shared → Prop} (hx : X.xe = fun e s' => wpAny (model X.prog X.w) X.A (leaving X.env e) (fun _ s'' => CX e s'') E₁ s') : PassesOwn (model X.prog X.w) X.A X.env X.xe := passes_of hx
end

structure DefKX (P : Program) (w : World) (K : PySem.W.Frag) (mg : Str → Option Value) (base : Heap) (x : Str) (k n : Nat) (fn : Fn) (n1 : Nat) (ks : List Str) (dd : List D) (sl : List Sel) : Prop where
  ex : ∃ (f : Addr) (fd : FuncData) (ps : List Str) (its : List Value) (dvs : List V), FnOkG P w K mg base (L2.CX P w) k f fd ps (spX K n fn) ∧ mg x = some (.ref f) ∧ PySem.W.keepIn K (.ref f) = true ∧ KB K fd ps n1 ks sl its ∧ Vals dvs its ∧ (∀ bx W H, RepL K bx W H dd dvs)
  len : sl.length = n
  ok : sl.all (Sel.ok n1 dd.length ks.length) = true
section
variable {X : Cx} {W : WX} {x : Str} {k n n1 : Nat} {fn : Fn} {dd : List D} {ks : List Str} {sl : List Sel} {e : Expr} {es : List Expr} {kws : List Keyword} {ma mk : M (List D)} {p pos : Pos}
theorem spX_sel {K : PySem.W.Frag} {F : Fm} {T : List Addr} {bx : Bxs} {s1 : S} {σ : St} {H1 : Hp} {Q : VK} {ds : List D} {vs : List V} (hl : vs.length = n) (r : Rel K F bx T s1 σ H1) (q2 : RepL K bx (Wf F s1 σ T) H1 ds vs)
    (h : (∃ t s', runF fn ds s1 = .ok t s' ∧ ∀ v bx' H', Stp K F T bx s1 σ H1 bx' (tmpOf t v T) s' σ H' → Res K F T bx' s' σ H' t v → Q v H') ∨
      ∃ e s', runF fn ds s1 = .ex e s' ∧ ∀ cls d bx' H', Stp K F T bx s1 σ H1 bx' T s' σ H' → ExR K bx' (Wf F s' σ T) H' e cls d → W cls d σ H') : spX K n fn vs H1 Q (WE W σ) := by
  have hd : ds.length = n := q2.length.trans hl
  have key : spX K n (fun ds st => if ds.length = n then fn ds st else .no) vs H1 Q (WE W σ) := by
    refine spX_of (fun ds st t st' h => ?_) (fun ds st t st' h => ?_) r q2 ?_
    · split at h
      · assumption
      · cases h
    · split at h
      · assumption
      · cases h
    · have e : runF (fun ds st => if ds.length = n then fn ds st else .no) ds s1 = runF fn ds s1 := by
        unfold runF
        show (match (if ds.length = n then fn ds s1.st else .no) with
          | .ok t st => R.ok t { s1 with st := st }
          | .ex e st => R.ex e { s1 with st := st }
          | .no => R.no) = _
        rw [if_pos hd]
        try rfl
      rw [e]
      exact h
  obtain ⟨h1, bx, W', ds', st, h2, h3, h4, h5, h6⟩ := key
  refine ⟨h1, bx, W', ds', st, h2, h3, h4, h5, ?_⟩
  have hd' : ds'.length = n := h2.length.trans h1
  simpa only [if_pos hd'] using h6
theorem rdKx {K : PySem.W.Frag} {σ : St} {H : Hp} {Q : VK} {dvs : List V} (hd : ∀ bx W H, RepL K bx W H dd dvs) (hl : sl.length = n) (hsl : sl.all (Sel.ok n1 dd.length ks.length) = true) (h : rdTx K W (callK fn n1 ks.length dd sl (nex ma) (nex mk)) σ H Q) :
    rdA K ma σ H fun vs H1 => rdA K mk σ H1 fun zs H2 => vs.length = n1 ∧ zs.length = ks.length ∧ spX K n fn (pickS .non vs dvs zs sl) H2 Q (WE W σ) := by
  have pl : ∀ {vs : List V} {zs : List V}, (pickS .non vs dvs zs sl).length = n := by
    intro vs zs
    unfold pickS; rw [List.length_map]; exact hl
  obtain ⟨F, T, bx, s, r, ⟨t, s', e, k⟩ | ⟨ee, s', e, k⟩⟩ := h
  · obtain ⟨ds, s1, e1, e⟩ := bind_okN e
    obtain ⟨es, s2, e2, e⟩ := bind_okN e
    split at e
    · rename_i c
      refine ⟨F, T, bx, s, r, ds, s1, e1, fun vs bx1 H1 x1 q1 => ⟨F, T, bx1, s1, x1.rel, es, s2, e2, fun zs bx2 H2 x2 q2 => ?_⟩⟩
      have q1' := x2.trL _ _ q1
      refine ⟨by rw [← q1'.length]; exact c.1, by rw [← q2.length]; exact c.2, ?_⟩
      have q3 : RepL K bx2 (Wf F s2 σ T) H2 (pickS .non ds dd es sl) (pickS .non vs dvs zs sl) := RepL.pick q1' (hd bx2 _ H2) q2 sl (by rw [c.1, c.2]; exact hsl)
      exact spX_sel pl x2.rel q3 (.inl ⟨t, s', e, fun v bx3 H3 x3 q4 => k v bx3 H3 ((x1.trans x2).trans x3) q4⟩)
    · cases e
  · obtain ⟨ds, s1, e1, e⟩ := bind_exN e
    obtain ⟨es, s2, e2, e⟩ := bind_exN e
    split at e
    · rename_i c
      refine ⟨F, T, bx, s, r, ds, s1, e1, fun vs bx1 H1 x1 q1 => ⟨F, T, bx1, s1, x1.rel, es, s2, e2, fun zs bx2 H2 x2 q2 => ?_⟩⟩
      have q1' := x2.trL _ _ q1
      refine ⟨by rw [← q1'.length]; exact c.1, by rw [← q2.length]; exact c.2, ?_⟩
      have q3 : RepL K bx2 (Wf F s2 σ T) H2 (pickS .non ds dd es sl) (pickS .non vs dvs zs sl) := RepL.pick q1' (hd bx2 _ H2) q2 sl (by rw [c.1, c.2]; exact hsl)
      exact spX_sel pl x2.rel q3 (.inr ⟨ee, s', e, fun cls d bx3 H3 x3 q4 => k cls d bx3 H3 ((x1.trans x2).trans x3) q4⟩)
    · cases e
theorem run_fnKX {f : Addr} {fd : FuncData} {ps : List Str} {sp : Sp} {its : List Value} {dvs : List V} {pins : List (Addr × Obj)} {σ : St} {H : Hp} {s : Shared} {Q : VK} {us ws : List Value} {vs zs : List V} (tk : Takes X W) (F : FnOkG X.prog X.w X.K X.mg X.base (L2.CX X.prog X.w) k f fd ps sp) (hgd : X.A.guards = some []) (hr : Room k X.A) (hb : KB X.K fd ps n1 ks sl its) (hd : Vals dvs its)
    (I : Inv X pins σ H s) (r : Vals vs us) (rz : Vals zs ws) (l1 : vs.length = n1) (l2 : zs.length = ks.length) (hsl : sl.all (Sel.ok n1 dvs.length ks.length) = true) (h : sp (pickS .non vs dvs zs sl) H Q (WE W σ)) : wpAny (model X.prog X.w) X.A (call (.ref f) us (ks.zip ws)) (EP X pins σ Q) X.xe s := by
  exact calledX tk F hgd hr I (hb.to s us ws I.kIn (r.length.symm.trans l1) (rz.length.symm.trans l2)) (Vals.pick r hd rz sl (by rw [l1, l2]; exact hsl)) h
theorem sex_callK (tk : Takes X W) (G : DefKX X.prog X.w X.K X.mg X.base x k n fn n1 ks dd sl) (hgd : X.A.guards = some []) (hr : Room k X.A) (hg : Gl X x) (ha : SA X (e :: es) ma) (hkw : SK X kws mk) (hall : (backToKw pos (keywordEach kws X.env)).all (·.1.isSome) = true := by rfl) (hks : (backToKw pos (keywordEach kws X.env)).filterMap (·.1) = ks := by rfl)
    (hdb : (x == ("__debug__" : Str)) = false := by decide) (he : starEach (e :: es) X.env = (false, eval e X.env) :: starEach es X.env := by rfl)
    (hpl : ((backTo pos (starEach (e :: es) X.env)).any (·.1) || (backToKw pos (keywordEach kws X.env)).any (·.1.isNone)) = false := by rfl) : SEX W X (.Call (.Name x p) (e :: es) kws pos) (callK fn n1 ks.length dd sl (nex ma) (nex mk)) := by
  obtain ⟨f, fd, ps, its, dvs, F, hm, hk, hb, hd, hdd⟩ := G.ex
  refine ⟨fun pins s σ H Q I h => ?_⟩
  have h2 := rdKx (ks := ks) hdd G.len G.ok h
  refine wpAny_Call_Name_kw (ld_glob I hg hm ?_ hdb)
  refine PySem.W.callWith_KW (h₀ := X.base) I.ok.mod.kin hk hall (thn (ha.run pos pins s σ H _ I h2) fun us s1 ⟨vs, H1, I1, r, q⟩ => ?_) hpl he
  refine thn (hkw.run pos pins s1 σ H1 _ I1 q) fun ws s2 ⟨zs, H2, I2, rz, l1, l2, q2⟩ => ⟨I2.kIn, ?_⟩
  rw [hks]
  exact run_fnKX tk F hgd hr hb hd I2 r rz l1 l2 (by rw [← RepL.length_dd hdd]; exact G.ok) q2
theorem sex_callK0 (tk : Takes X W) (G : DefKX X.prog X.w X.K X.mg X.base x k n fn 0 ks dd sl) (hgd : X.A.guards = some []) (hr : Room k X.A) (hg : Gl X x) (hkw : SK X kws mk) (hall : (backToKw pos (keywordEach kws X.env)).all (·.1.isSome) = true := by rfl) (hks : (backToKw pos (keywordEach kws X.env)).filterMap (·.1) = ks := by rfl)
    (hdb : (x == ("__debug__" : Str)) = false := by decide)
    (hpl : ((backTo pos (starEach [] X.env)).any (·.1) || (backToKw pos (keywordEach kws X.env)).any (·.1.isNone)) = false := by rfl) : SEX W X (.Call (.Name x p) [] kws pos) (callK fn 0 ks.length dd sl (nex nilA) (nex mk)) := by
  obtain ⟨f, fd, ps, its, dvs, F, hm, hk, hb, hd, hdd⟩ := G.ex
  refine ⟨fun pins s σ H Q I h => ?_⟩
  have h2 := rdKx (ks := ks) hdd G.len G.ok h
  obtain ⟨F', T, bx, s', r', ds', s'', e, kk⟩ := h2
  cases e
  have h3 := kk [] bx H (Stp.refl r') .nil
  refine wpAny_Call_Name_kw (ld_glob I hg hm ?_ hdb)
  refine PySem.W.callWith_KW0 (h₀ := X.base) I.ok.mod.kin hk hall ?_ hpl
  refine thn (hkw.run pos pins s σ H _ I h3) fun ws s2 ⟨zs, H2, I2, rz, l1, l2, q2⟩ => ⟨I2.kIn, ?_⟩
  rw [hks]
  exact run_fnKX (us := []) tk F hgd hr hb hd I2 .nil rz l1 l2 (by rw [← RepL.length_dd hdd]; exact G.ok) q2
end
end L2.Pd
set_option maxHeartbeats 4000000
namespace L2.Pd
open PySem PySem.Spec PyProof.Rows

theorem exH_ok {P : Program} {w : World} {H : Hp} {h : Heap} {a C : Addr} {od : Option Addr} {oe : Obj} (e : h.get? a = some oe) (z : L2.Zc (.ref C) od oe) (d : ∃ vs, oe.data = .fields vs) : ObjOk P w H h a (exH a C od) :=
  ⟨⟨oe, e, z, d⟩, ⟨oe, e⟩, fun _ _ ⟨o, q, r⟩ k => ⟨o, k _ q, r⟩⟩
section
variable {X : Cx} {pins : List (Addr × Obj)} {σ : St} {H : Hp} {s : Shared}
/-- an object that nothing tracks is tracked -/
theorem Inv.adopt {a : Addr} {o : HO} (I : Inv X pins σ H s) (na : H a = none) (n0 : X.s_0.heap.get? a = none) (nL : a ≠ X.env.locals) (nC : ∀ x c, X.env.cells.lookup x = some c → c ≠ a) (nP : ∀ p ∈ X.pn ++ pins, p.1 ≠ a) (new : ObjOk X.prog X.w (upd H a o) s.heap a o) :
    Inv X pins σ (upd H a o) s := by
  have ne : ∀ {b : Addr} {u : HO}, H b = some u → b ≠ a := fun {b u} e z => by rw [z, na] at e; cases e
  refine ⟨I.ok, I.os, I.bare, ⟨I.base.keep, I.base.slot, fun b u e n hx => ?_, I.base.there, fun b xs e => ?_, fun b u v e => ?_, fun b ps e => ?_⟩, I.loc, I.cell, ?_, fun x c e => ?_, fun p hp => ?_, fun b u e => ?_, I.len⟩
  · rw [upd_ne (fun z => by rw [z, n0] at e; cases e)]
    exact I.base.free b u e n hx
  · have q := I.base.tups b xs e
    rw [upd_ne (ne q)]; exact q
  · have q := I.base.frzs b u v e
    rw [upd_ne (ne q)]; exact q
  · obtain ⟨m, q⟩ := I.base.tbls b ps e
    exact ⟨m, by rw [upd_ne (ne q)]; exact q⟩
  · rw [upd_ne (Ne.symm nL)]; exact I.free
  · rw [upd_ne (nC x c e)]; exact I.freeC x c e
  · obtain ⟨h1, h2, h3⟩ := I.pin p hp
    exact ⟨h1, by rw [upd_ne (nP p hp)]; exact h2, h3⟩
  · by_cases hb : b = a
    · subst hb
      rw [upd_same] at e
      cases e
      exact new
    · rw [upd_ne hb] at e
      exact (I.hok b u e).stay (fun c v _ q => q) (fun c q => by rw [upd_ne (ne q)]; exact q) fun c xs q => by rw [upd_ne (ne q)]; exact q
theorem Inv.suite0 (I : Inv X pins σ H s) (a : Addr) : Inv (X.suite a (X.pn ++ pins)) [] σ H s :=
  ⟨I.ok.suite _ _, I.os, I.bare, I.base, I.loc, I.cell, I.free, I.freeC, fun p hp => by
    rw [List.append_nil] at hp
    exact I.pin p hp, I.hok, I.len⟩
theorem Inv.unsuite0 {a : Addr} {pn' : List (Addr × Obj)} (I : Inv (X.suite a (X.pn ++ pins)) pn' σ H s) (ok : X.Ok) : Inv X pins σ H s :=
  ⟨ok, I.os, I.bare, I.base, I.loc, I.cell, I.free, I.freeC, fun p hp => I.pin p (List.mem_append_left _ hp), I.hok, I.len⟩
end

/-- the classes that the clause names: values -/
inductive ClsN (X : Cx) : Expr → (Value → Option Bool) → Prop where
  | one {x : Str} {c : Value} {p : Pos} (h : Names X x c) : ClsN X (.Name x p) (fun cls => PySem.W.exmOne X.K cls c)
  | three {x1 x2 x3 : Str} {c1 c2 c3 : Value} {p1 p2 p3 p : Pos} {k : Nat} (h1 : Names X x1 c1) (h2 : Names X x2 c2) (h3 : Names X x3 c3) : ClsN X (.Tuple [.Name x1 p1, .Name x2 p2, .Name x3 p3] k p) (fun cls => PySem.W.exmAny X.K cls [c1, c2, c3])
theorem clsN_test {X : Cx} {e : Expr} {f : Value → Option Bool} (hc : ClsN X e f) {pins : List (Addr × Obj)} {σ : St} {H : Hp} {s : Shared} {a : Addr} {cls : Value} {b : Bool} {Q : Bool → Shared → Prop} {E : Value → Shared → Prop} (I : Inv (X.suite a (X.pn ++ pins)) [] σ H s)
    (LT : PySem.W.Looks (model X.prog X.w) s.heap (typeOf (.ref a)) cls) (hb : f cls = some b) (q : ∀ h', (∀ c o, s.heap.get? c = some o → h'.get? c = some o) → Q b { s with heap := h' }) :
    wpAny (model X.prog X.w) (X.A.mark (some (.ref a))) (eval e X.env) (fun c s₁ => wpAny (model X.prog X.w) (X.A.mark (some (.ref a))) (excMatches (.ref a) c) Q E s₁) E s := by
  have test : ∀ {x : Str} {c : Value} {p : Pos} {Q : Value → Shared → Prop} {E : Value → Shared → Prop}, Names X x c → Q c s → wpAny (model X.prog X.w) (X.A.mark (some (.ref a))) (eval (.Name x p) X.env) Q E s := fun {x c p Q E} hc q => by
    obtain ⟨hg, hdbg, hm | ⟨hm, hv, hnn⟩⟩ := hc
    · exact ld_glob (X := X.suite a (X.pn ++ pins)) I hg hm q hdbg
    · exact ld_blt (X := X.suite a (X.pn ++ pins)) I hg hm hv q hnn hdbg
  cases hc with
  | one h =>
    have LM := PySem.W.exm_one (M := model X.prog X.w) (I.kIn) LT hb
    refine test h (LM.here ?_)
    exact q s.heap fun _ _ z => z
  | @three x1 x2 x3 c1 c2 c3 p1 p2 p3 p k h1 h2 h3 =>
    refine wpAny_Tuple ?_
    refine wpAny_items_cons (test h1 ?_)
    refine wpAny_items_cons (test h2 ?_)
    refine wpAny_items_cons (test h3 ?_)
    refine wpAny_items_nil ⟨by size_fits, ?_⟩
    have kp : ∀ q o, s.heap.get? q = some o → (s.heap.push { cls := .type "tuple", data := .seq [c1, c2, c3].toArray }).get? q = some o := fun _ _ z => Heap.get?_push_of_some _ z
    have hK : X.K.In s.heap := I.kIn
    exact (PySem.W.exm_tup3 (hK.keeps kp) (LT.keeps kp) (Heap.get?_push_size s.heap rfl) hb).here (q _ kp)

/-- what the clause wishes of an exception of the body; the suite finds the exception tracked -/
def wTr (f : Value → Option Bool) (i : Nat) (ts : TS) (Wout : WX) (D : Ends) : WX := fun cls d σ H => ∃ C b, cls = .ref C ∧ f cls = some b ∧
  (b = true → ∀ a, H a = none → ts { nx := fun σ' H' => D.nx (σ'.set i none) H', rt := D.rt, bk := fun σ' H' => D.bk (σ'.set i none) H', ct := fun σ' H' => D.ct (σ'.set i none) H' } (σ.set i (some (.ref a))) (upd H a (exH a C d))) ∧ (b = false → Wout cls d σ H)
def wTr0 (f : Value → Option Bool) (ts : TS) (Wout : WX) (D : Ends) : WX := fun cls d σ H => ∃ C b, cls = .ref C ∧ f cls = some b ∧
  (b = true → ∀ a, H a = none → ts D σ (upd H a (exH a C d))) ∧ (b = false → Wout cls d σ H)

section
variable {X : Cx} {n : Str} {i : Nat} {f : Value → Option Bool} {body suite : List Stmt} {b₀ : Stmt} {ce : Expr} {pos pos' : Pos} {tb : WX → TS} {ts : TS} {Wout : WX}
theorem ps_tryT (hex : X.ex = []) (hs : X.stack = X.env :: X.outer) (hf : X.env.frame = some X.env.locals) (hN : X.N.Nodup) (hi : X.N[i]? = some n) (hln : X.env.kindOf n = some .local) (hc : ClsN X ce f) (tk : Takes X Wout)
    (hb : ∀ (W : WX) (pn : List (Addr × Obj)) (xe : Value → Shared → Prop), Takes (X.tr pn xe) W → PassesOwn (model X.prog X.w) X.A X.env xe → PSs (X.tr pn xe) body (tb W))
    (hsu : ∀ (a : Addr) (pn : List (Addr × Obj)), PSs (X.suite a pn) (b₀ :: suite) ts) :
    PS X (.Try body [.ExceptHandler (some ce) (some n) (b₀ :: suite) pos'] [] [] pos) (fun D σ H => tb (wTr f i ts Wout D) D σ H) := by
  refine ⟨fun pins s σ H D I h => ?_⟩
  have ok := I.ok
  have hfr : X.A.frames = some (X.env :: X.outer) := by rw [ok.frames, hs]
  have hloc : Loc X.env.scope n := .inl hln
  refine wpAny_Try_except ?_
  refine wpAny_mono ((hb (wTr f i ts Wout D) (X.pn ++ pins) (fun e s₁ => wpAny (model X.prog X.w) X.A (noteFrame e X.env) (fun _ s₂ => wpAny (model X.prog X.w) X.A (setFlight e none) (fun _ s₃ =>
    wpAny (model X.prog X.w) X.A (handleBy e X.env [.ExceptHandler (some ce) (some n) (b₀ :: suite) pos']) (SP X pins D) X.xe s₃) X.xe s₂) X.xe s₁) (fun u s' xx => ?_) PassesOwn.looking).run [] s σ H D (I.toTry _) h) (fun f s1 hsp => ?_) (fun e s1 he => he)
  · -- the catch
    obtain ⟨a, B, sI, pins', σ', H', cls, d, rfl, J', nb, up, sky, na, os, ag, C, b, rfl, hb1, hyes, hno⟩ := xx
    have J : Inv X pins σ' H' sI := J'.ofTry ok
    have sky' : Sky B (X.env :: X.outer) a (Zc (.ref C) d) X.env.locals s'.heap := by rw [← hs]; exact sky
    show wpAny (model X.prog X.w) X.A (noteFrame (.ref a) X.env) _ _ _
    refine Sky.land Zc.steady hfr hf sky' fun h3 fl3 up3 => ?_
    have J3 : Inv X pins σ' H' { s' with heap := h3 } := J.landed nb fl3.1 (up.trans up3) os ag
    obtain ⟨oe3, vs3, he3, hz3, hd3⟩ := fl3.there
    have notFr : ∀ {h : Heap} {o : Obj} {vs : Array Value}, h.FunFrames B (X.env :: X.outer) → h.get? a = some o → o.data = .fields vs → a ∉ frs (X.env :: X.outer) := fun {h o vs} ff e dd hm => by
      obtain ⟨_, o', e', hnf⟩ := ff.mem hm
      rw [e] at e'; cases e'
      exact hnf _ dd
    have nfr := notFr fl3.2.2.1 he3 hd3
    have nL : a ≠ X.env.locals := fun z => nfr (List.mem_filterMap.mpr ⟨X.env, List.mem_cons_self, by rw [hf, z]⟩)
    have nF : a ∉ X.fs := fun hm => by
      obtain ⟨e, he, q⟩ := List.mem_filterMap.mp hm
      exact nfr (List.mem_filterMap.mpr ⟨e, List.mem_cons_of_mem _ he, q⟩)
    have Ba : B.get? a = none := fl3.2.1
    have inB : ∀ {b : Addr} {o : Obj}, sI.heap.get? b = some o → b ∉ frs X.stack → b ≠ a := fun {b o} e n z => by
      have q := nb b o e n
      rw [z, Ba] at q; cases q
    have n0 : X.s_0.heap.get? a = none := by
      cases e : X.s_0.heap.get? a with
      | none => rfl
      | some o =>
        obtain ⟨o', e'⟩ := J.base.there a o e (by rw [hex]; exact List.not_mem_nil)
        exact (inB e' (by rw [hs]; exact nfr) rfl).elim
    have nC : ∀ x c, X.env.cells.lookup x = some c → c ≠ a := fun x c e z => by
      obtain ⟨v, o, ho, hd⟩ := J3.cell x c e
      rw [z] at ho
      have ho : h3.get? a = some o := ho
      rw [he3] at ho; cases ho
      rw [hd3] at hd; cases hd
    have nP : ∀ p ∈ X.pn ++ pins, p.1 ≠ a := fun p hp => by
      obtain ⟨q1, q2, q3, q4, _⟩ := J.pin p hp
      refine inB q1 fun z => ?_
      rw [hs] at z
      obtain ⟨e, he, q⟩ := List.mem_filterMap.mp z
      rcases List.mem_cons.mp he with rfl | he
      · rw [hf] at q
        exact q3 (Option.some.inj q).symm
      · exact q4 (List.mem_filterMap.mpr ⟨e, he, q⟩)
    refine wpAny_handleBy_cons (codeAny_handlers_test ?_) (by intro q; cases q)
    have LT : PySem.W.Looks (model X.prog X.w) h3 (typeOf (.ref a)) (.ref C) := fun A Q E s k q => wpAny_typeOf_ref (k _ _ he3) (by rw [hz3.1]; exact q)
    refine clsN_test hc (Pd.Inv.suite0 J3 a) LT hb1 fun h3' kp => ?_
    have fl3' : HandSPX.FlyingZ B (X.env :: X.outer) a (Zc (.ref C) d) h3' := by
      obtain ⟨k1, k2, k3, oe, vs, T, oT, ts', he, hz, hd, h1, hn, hne, hT, hdT, hr⟩ := fl3
      exact ⟨fun b o e => kp _ _ (k1 b o e), k2, k3.of_keeps fun b o e _ => ⟨o, kp _ _ e, rfl⟩, oe, vs, T, oT, ts', kp _ _ he, hz, hd, h1, hn, hne, kp _ _ hT, hdT, hr⟩
    have up3' : s'.heap.UpToSlots h3' := up3.trans (Heap.UpToSlots.of_keeps kp)
    cases b with
    | true =>
      refine codeAny_handlers_suite_as ?_
      refine HandSPX.lands_againZ fl3' fun h4 fl4 up4 => ?_
      have J4 : Inv X pins σ' H' { s' with heap := h4 } := J.landed nb fl4.1 ((up.trans up3').trans up4) os ag
      obtain ⟨oe4, vs4, he4, hz4, hd4⟩ := fl4.there
      have J5 := Pd.Inv.adopt J4 na n0 nL nC nP (exH_ok he4 hz4 ⟨_, hd4⟩)
      have S4 := Pd.Inv.suite0 J5 a
      refine store_ok (X := X.suite a (X.pn ++ pins)) (v := .ref a) S4 hN hi hloc rfl (fun s5 S5 => ?_) (.inr hln)
      refine wpAny_mono ((hsu a (X.pn ++ pins)).run [] s5 _ _ _ S5 (hyes rfl a na)) (fun f s6 hsp => ?_) (fun _ _ z => False.elim z)
      have end_ : ∀ {σ6 : St} {H6 : Hp} {Q : Shared → Prop}, Inv (X.suite a (X.pn ++ pins)) [] σ6 H6 s6 → (∀ s7, Inv X pins (σ6.set i none) H6 s7 → Q s7) →
          wpAny (model X.prog X.w) X.A (do bindName X.env n .none; unbindBehindTheSuite X.env n pos') (fun _ s7 => Q s7) X.xe s6 := fun {σ6 H6 Q} S6 hq => gone_ok (Pd.Inv.unsuite0 S6 ok) hN hi hln hq
      cases f with
      | next =>
        obtain ⟨σ6, H6, S6, q6⟩ := hsp
        exact end_ S6 fun s7 J7 => ⟨_, _, J7, q6⟩
      | brk =>
        obtain ⟨σ6, H6, S6, q6⟩ := hsp
        exact end_ S6 fun s7 J7 => ⟨_, _, J7, q6⟩
      | cont =>
        obtain ⟨σ6, H6, S6, q6⟩ := hsp
        exact end_ S6 fun s7 J7 => ⟨_, _, J7, q6⟩
      | ret u =>
        obtain ⟨v6, σ6, H6, S6, r6, q6⟩ := hsp
        exact end_ S6 fun s7 J7 => ⟨_, _, _, J7, r6, q6⟩
    | false =>
      show wpAny _ X.A (handleBy (.ref a) X.env []) _ _ _
      refine wpAny_handleBy_nil ?_
      obtain ⟨k1, k2, k3, oe, vs, T, oT, ts', he, hz, hd, h1, hr⟩ := id fl3'
      unfold PySem.passOn
      refine wpAny_bind (wpAny_field he hd h1 ?_)
      rw [if_neg (show ¬ ((Value.ref T == Value.none) = true) from by simp)]
      have fin : wpAny (model X.prog X.w) X.A (setFlight (.ref a) X.env.frame) (fun _ s4 => wpAny (model X.prog X.w) X.A (throw (.ref a) : Sem Flow) (SP X pins D) X.xe s4) X.xe { s' with heap := h3' } := by
        rw [hf]
        refine HandSPX.setFlight_upZ fl3' fun h4 hh4 up4 => wpAny_throw (tk _ _ ?_)
        exact ⟨a, B, sI, pins, σ', H', .ref C, d, rfl, J, nb, (up.trans up3').trans up4, .inr (.inr (by rw [hs]; exact hh4)), na, os, ag, hno rfl⟩
      first
        | exact wpAny_bind (wpAny_pure (wpAny_bind fin))
        | exact wpAny_bind fin
  · cases f with
    | next =>
      obtain ⟨σ', H', J', q⟩ := hsp
      exact wpAny_execs_nil ⟨σ', H', J'.ofTry ok, q⟩
    | brk =>
      obtain ⟨σ', H', J', q⟩ := hsp
      exact ⟨σ', H', J'.ofTry ok, q⟩
    | cont =>
      obtain ⟨σ', H', J', q⟩ := hsp
      exact ⟨σ', H', J'.ofTry ok, q⟩
    | ret u =>
      obtain ⟨v, σ', H', J', r, q⟩ := hsp
      exact ⟨v, σ', H', J'.ofTry ok, r, q⟩
end
end L2.Pd
set_option maxHeartbeats 4000000
namespace L2.Pd
open PySem PySem.Spec PyProof.Rows

def excD (e : Exn) : D := .exc e.cls e.ns e.ds
def delv (i : Nat) (s : S) : S := { s with env := s.env.set i none }
/-- tst: which classes the clause takes -/
def tryM (tst : Str → Option Bool) (i : Nat) (mb ms : M Fl) : M Fl := fun s => match mb s with
  | .ok fl s' => .ok fl s'
  | .no => .no
  | .ex e s1 => match tst e.cls with
    | none => .no
    | some false => .ex e s1
    | some true => if i < s1.env.length then (match ms { s1 with env := s1.env.set i (some (excD e, false)) } with
      | .ok fl s2 => .ok fl (delv i s2)
      | _ => .no) else .no
section
variable {K : PySem.W.Frag} {F : Fm} {T T' : List Addr} {bx bx' : Bxs} {s s' : S} {σ σ' : St} {H H' : Hp} {t : DB} {v : V} {i : Nat}
theorem del_own {a : Addr} (h : Own (delv i s) (σ.set i none) a) : Own s σ a := by
  obtain ⟨j, d, z1, z2⟩ := h
  rcases set_look z1 with ⟨_, q⟩ | ⟨n, q⟩
  · cases q
  · rw [List.getElem?_set_ne (Ne.symm n)] at z2
    exact ⟨j, d, q, z2⟩
theorem del_wf {a : Addr} (h : Wf F (delv i s) (σ.set i none) T a) : Wf F s σ T a := by
  rcases h with z | z | z
  · exact .inl z
  · exact .inr (.inl (del_own z))
  · exact .inr (.inr z)
theorem Rel.del (r : Rel K F bx T s σ H) : Rel K F bx T (delv i s) (σ.set i none) H := by
  refine ⟨by simpa [delv] using r.len, r.w0, r.wb, fun j d q => ?_, fun j d q => ?_, fun j k d2 d3 b q1 q2 q3 q4 => ?_, r.box, r.fr, r.tmp, r.nb, r.pre⟩
  · rcases set_look q with ⟨_, q⟩ | ⟨n, q⟩
    · cases q
    · obtain ⟨v, q1, q2⟩ := r.sh j d q
      exact ⟨v, by rw [List.getElem?_set_ne (Ne.symm n)]; exact q1, q2.less fun _ => del_wf⟩
  · rcases set_look q with ⟨_, q⟩ | ⟨n, q⟩
    · cases q
    · obtain ⟨a, xs, ds, o, p1, p2, p3, p, p4⟩ := r.ow j d q
      exact ⟨a, xs, ds, o, p1, by rw [List.getElem?_set_ne (Ne.symm n)]; exact p2, p3, p.less fun _ => del_wf, p4⟩
  · rcases set_look q1 with ⟨_, q1⟩ | ⟨n1, q1⟩
    · cases q1
    · rcases set_look q2 with ⟨_, q2⟩ | ⟨n2, q2⟩
      · cases q2
      · rw [List.getElem?_set_ne (Ne.symm n1)] at q3
        rw [List.getElem?_set_ne (Ne.symm n2)] at q4
        exact r.inj j k d2 d3 b q1 q2 q3 q4
theorem Stp.del (x : Stp K F T bx s σ H bx' T' s' σ' H') : Stp K F T bx s σ H bx' T' (delv i s') (σ'.set i none) H' :=
  ⟨x.rel.del, fun d u h => (x.tr d u h).less fun _ => del_wf, x.tk, x.pre, x.kt, x.sub⟩
theorem Res.del (q : Res K F T bx s σ H t v) : Res K F T bx (delv i s) (σ.set i none) H t v := by
  obtain ⟨d, fr⟩ := t
  cases fr with
  | false => exact Rep.less (fun _ => del_wf) (show Rep K bx (Wf F s σ T) H d v from q)
  | true =>
    obtain ⟨a, xs, ds, o, e1, e2, e3, h, hn, hT⟩ := q
    exact ⟨a, xs, ds, o, e1, e2, e3, h.less fun _ => del_wf, fun z => hn (del_own z), hT⟩
/-- an exception in the air, made tracked, is its datum -/
theorem ExR.rep {W : Wd} {e : Exn} {C a : Addr} {od : Option Addr} (h : ExR K bx W H e (.ref C) od) (na : H a = none) : Rep K bx W (upd H a (exH a C od)) (excD e) (.ref a) := by
  obtain ⟨h1, h2, xs, h3, h4⟩ := h
  obtain rfl := Value.ref.inj h1
  unfold excD Rep
  refine ⟨a, od, xs, rfl, .inl upd_same, h2, ?_, h3.grow (Grow.new na) fun _ z => .inl z⟩
  rcases h4 with h4 | ⟨d, h4, h5⟩
  · exact .inl h4
  · refine .inr ⟨d, h4, ?_⟩
    rcases h5 with h5 | ⟨o, h5⟩
    · exact .inl (by rw [upd_ne (ne_of_none h5 na)]; exact h5)
    · exact .inr ⟨o, by rw [upd_ne (ne_of_none h5 na)]; exact h5⟩
theorem rdSx.try_ {W : WX} {f : Value → Option Bool} {tst : Str → Option Bool} {mb ms : M Fl} {D : Ends} (hT : ∀ c b, tst c = some b → f (.ref (He.ga K c)) = some b) (h : rdSx K W (tryM tst i mb ms) D σ H) : rdSx K (wTr f i (rdS K ms) W D) mb D σ H := by
  obtain ⟨F, T, bx, s, r, k⟩ := h.post
  refine rdSx.of r ?_
  unfold tryM at k
  cases e : mb s with
  | ok fl s' =>
    rw [e] at k
    cases fl <;> exact k
  | no => rw [e] at k; exact k
  | ex ee s1 =>
    rw [e] at k
    intro cls d bx1 σ1 H1 x1 q1
    simp only at k
    cases ht : tst ee.cls with
    | none => rw [ht] at k; exact k.elim
    | some b =>
      rw [ht] at k
      have hcl := q1.1
      subst hcl
      refine ⟨_, b, rfl, hT _ _ ht, fun hb a na => ?_, fun hb => ?_⟩
      · subst hb
        simp only at k
        split at k
        · rename_i hlt
          split at k
          · rename_i fl s2 em
            have xg : Stp K F T bx1 s1 σ1 H1 bx1 T s1 σ1 (upd H1 a (exH a (He.ga K ee.cls) d)) := Stp.grow x1.rel (Grow.new na) (fun _ z => .inl z) (fun _ z => z)
            have xp := Stp.put (t := (excD ee, false)) (v := .ref a) (i := i) (x1.trans xg) (q1.rep na) hlt
            refine ⟨F, T, bx1, _, xp.rel, fl, s2, em, ?_⟩
            cases fl with
            | nx => exact fun bx2 σ2 H2 x2 => k bx2 _ H2 (xp.trans x2).del
            | bk => exact fun bx2 σ2 H2 x2 => k bx2 _ H2 (xp.trans x2).del
            | ct => exact fun bx2 σ2 H2 x2 => k bx2 _ H2 (xp.trans x2).del
            | rt t => exact fun v bx2 σ2 H2 x2 q => k v bx2 _ H2 (xp.trans x2).del q.del
          · exact k.elim
        · exact k.elim
      · subst hb
        exact k _ d bx1 σ1 H1 x1 q1
end
section
variable {X : Cx} {W : WX} {n : Str} {i : Nat} {f : Value → Option Bool} {tst : Str → Option Bool} {body suite : List Stmt} {b₀ : Stmt} {ce : Expr} {pos pos' : Pos} {mb ms : M Fl}
theorem sx_try (hex : X.ex = []) (hs : X.stack = X.env :: X.outer) (hf : X.env.frame = some X.env.locals) (hN : X.N.Nodup) (hi : X.N[i]? = some n) (hln : X.env.kindOf n = some .local) (hc : ClsN X ce f) (hT : ∀ c b, tst c = some b → f (.ref (He.ga X.K c)) = some b) (tk : Takes X W)
    (hb : ∀ (W : WX) (pn : List (Addr × Obj)) (xe : Value → Shared → Prop), Takes (X.tr pn xe) W → PassesOwn (model X.prog X.w) X.A X.env xe → SXs W (X.tr pn xe) body mb)
    (hsu : ∀ (a : Addr) (pn : List (Addr × Obj)), SSs (X.suite a pn) (b₀ :: suite) ms) :
    SX W X (.Try body [.ExceptHandler (some ce) (some n) (b₀ :: suite) pos'] [] [] pos) (tryM tst i mb ms) :=
  PS.weak (ps_tryT hex hs hf hN hi hln hc tk (tb := fun W => rdSx X.K W mb) (ts := rdS X.K ms) hb hsu) fun _ _ _ h => h.try_ hT
/-- where nothing leaves -/
theorem ss_try (hex : X.ex = []) (hs : X.stack = X.env :: X.outer) (hf : X.env.frame = some X.env.locals) (hN : X.N.Nodup) (hi : X.N[i]? = some n) (hln : X.env.kindOf n = some .local) (hc : ClsN X ce f) (hT : ∀ c b, tst c = some b → f (.ref (He.ga X.K c)) = some b)
    (hb : ∀ (W : WX) (pn : List (Addr × Obj)) (xe : Value → Shared → Prop), Takes (X.tr pn xe) W → PassesOwn (model X.prog X.w) X.A X.env xe → SXs W (X.tr pn xe) body mb)
    (hsu : ∀ (a : Addr) (pn : List (Addr × Obj)), SSs (X.suite a pn) (b₀ :: suite) ms) :
    SS X (.Try body [.ExceptHandler (some ce) (some n) (b₀ :: suite) pos'] [] [] pos) (nex (tryM tst i mb ms)) :=
  ss_of (W := fun _ _ _ _ => False) (PS.weak (sx_try hex hs hf hN hi hln hc hT takes0 hb hsu) fun _ _ _ h => rdS.sx h.nex)
end

inductive CN where
  | own (x : Str) | ty (n : String)
  deriving DecidableEq
def CN.val (K : PySem.W.Frag) : CN → Value
  | .own x => .ref (He.ga K x)
  | .ty n => .type n
/-- a table: class, other class, whether it is one of it -/
abbrev XTab := List (Str × CN × Bool)
def isxT (T : XTab) (c : Str) (x : CN) : Option Bool := (T.find? fun e => decide (e.1 = c) && decide (e.2.1 = x)).map (·.2.2)
theorem isxT_mem {T : XTab} {c : Str} {x : CN} {b : Bool} (h : isxT T c x = some b) : (c, x, b) ∈ T := by
  unfold isxT at h
  obtain ⟨⟨c', x', b'⟩, h1, h2⟩ := Option.map_eq_some_iff.mp h
  have h3 := List.find?_some h1
  simp only [Bool.and_eq_true, decide_eq_true_eq] at h3
  obtain ⟨rfl, rfl⟩ := h3
  have h2 : b' = b := h2
  subst h2
  exact List.mem_of_find?_eq_some h1
/-- that the written part says so -/
def kitTab (K : PySem.W.Frag) (T : XTab) : Bool := T.all fun e => decide (PySem.W.kitOne K (.ref (He.ga K e.1)) (e.2.1.val K) = some e.2.2)
def exmTab (K : PySem.W.Frag) (T : XTab) : Bool := T.all fun e => decide (PySem.W.exmOne K (.ref (He.ga K e.1)) (e.2.1.val K) = some e.2.2)
theorem kitTab_ok {K : PySem.W.Frag} {T : XTab} (k : kitTab K T = true) {c : Str} {x : CN} {b : Bool} (h : isxT T c x = some b) : PySem.W.kitOne K (.ref (He.ga K c)) (x.val K) = some b := by
  have := List.all_eq_true.mp k _ (isxT_mem h)
  exact of_decide_eq_true this
theorem exmTab_ok {K : PySem.W.Frag} {T : XTab} (k : exmTab K T = true) {c : Str} {x : CN} {b : Bool} (h : isxT T c x = some b) : PySem.W.exmOne K (.ref (He.ga K c)) (x.val K) = some b := by
  have := List.all_eq_true.mp k _ (isxT_mem h)
  exact of_decide_eq_true this
/-- except (A, B, C) -/
def tst1 (T : XTab) (x : CN) (c : Str) : Option Bool := isxT T c x
def tst3 (T : XTab) (x y z : CN) (c : Str) : Option Bool := match isxT T c x, isxT T c y, isxT T c z with
  | some a, some b, some d => some (a || b || d)
  | _, _, _ => none
theorem tst1_ok {K : PySem.W.Frag} {T : XTab} (k : exmTab K T = true) {x : CN} : ∀ c b, tst1 T x c = some b → (fun cls => PySem.W.exmOne K cls (x.val K)) (.ref (He.ga K c)) = some b := fun c b h => exmTab_ok k h
theorem tst3_ok {K : PySem.W.Frag} {T : XTab} (k : exmTab K T = true) {x y z : CN} : ∀ c b, tst3 T x y z c = some b → (fun cls => PySem.W.exmAny K cls [x.val K, y.val K, z.val K]) (.ref (He.ga K c)) = some b := fun c b h => by
  unfold tst3 at h
  split at h
  · rename_i b1 b2 b3 h1 h2 h3
    cases h
    show PySem.W.exmAny K (.ref (He.ga K c)) [x.val K, y.val K, z.val K] = _
    have e1 := exmTab_ok k h1
    have e2 := exmTab_ok k h2
    have e3 := exmTab_ok k h3
    unfold PySem.W.exmAny PySem.W.exmAny PySem.W.exmAny PySem.W.exmAny
    rw [e1, e2, e3]
    simp [Bool.or_assoc]
  · cases h
/-- a class of the module -/
theorem se_glo {X : Cx} {x : Str} {pos : Pos} (hg : Gl X x) (hm : X.mg x = some (.ref (He.ga X.K x))) (hd : (x == ("__debug__" : Str)) = false := by decide) : SE X (.Name x pos) (cst (.glo x)) :=
  PE.weak (pe_glob (v := .ref (He.ga X.K x)) hg hm rfl hd) fun _ _ _ h => h.pure (v := .ref (He.ga X.K x)) fun _ _ _ => by unfold Rep; rfl
def clsD : D → Option CN
  | .glo x => some (.own x)
  | .ty n => some (.ty n)
  | _ => none
def isxAll (T : XTab) (c : Str) : List D → Option Bool
  | [] => some false
  | d :: ds => match clsD d with
    | some x => match isxT T c x with
      | some true => some true
      | some false => isxAll T c ds
      | none => none
    | none => none
/-- isinstance of an exception -/
def isxD (T : XTab) : List D → Option DB
  | [.exc c _ _, .tup (d :: ds)] => if (d :: ds).all (fun d => (clsD d).isSome) then (isxAll T c (d :: ds)).map fun b => (.bl b, false) else none
  | [.exc c _ _, d] => (clsD d).bind fun x => (isxT T c x).map fun b => (.bl b, false)
  | _ => none
def excB (K : PySem.W.Frag) (C : Addr) : Bool :=
  decide (PySem.W.findIn K (.ref C) "__getattribute__" = some (some (.builtin "BaseException.__getattribute__"))) && (decide (PySem.W.findIn K (.ref C) "__getattr__" = some none) && (decide (PySem.W.subIn K (.ref C) (.type "BaseException") = some true) && (PySem.W.hasDictIn K C &&
  (decide (PySem.W.findIn K (.ref C) "__class__" = some (some (.builtin "object.__class__"))) && (decide (PySem.W.specialIn K (.builtin "object.__class__") "__get__" = some (some (.builtin "getset_descriptor.__get__"))) && (decide (PySem.W.takesIn K (.builtin "object.__class__") = some true) && decide (PySem.W.mroIn K C (.type "object") = some true)))))))
end L2.Pd
set_option maxHeartbeats 4000000
namespace L2.Pd
open PySem PySem.Spec PyProof.Rows

structure ExK (K : PySem.W.Frag) (C : Addr) : Prop where
  hg : PySem.W.findIn K (.ref C) "__getattribute__" = some (some (.builtin "BaseException.__getattribute__"))
  hk : PySem.W.findIn K (.ref C) "__getattr__" = some none
  hs : PySem.W.subIn K (.ref C) (.type "BaseException") = some true
  hd : PySem.W.hasDictIn K C = true
  ha : PySem.W.findIn K (.ref C) "__class__" = some (some (.builtin "object.__class__"))
  hn : PySem.W.specialIn K (.builtin "object.__class__") "__get__" = some (some (.builtin "getset_descriptor.__get__"))
  ht : PySem.W.takesIn K (.builtin "object.__class__") = some true
  hm : PySem.W.mroIn K C (.type "object") = some true
theorem excB_ok {K : PySem.W.Frag} {C : Addr} (h : excB K C = true) : ExK K C := by
  unfold excB at h
  simp only [Bool.and_eq_true, decide_eq_true_eq] at h
  obtain ⟨h1, h2, h3, h4, h5, h6, h7, h8⟩ := h
  exact ⟨h1, h2, h3, h4, h5, h6, h7, h8⟩
def excTab (K : PySem.W.Frag) (T : XTab) : Bool := T.all fun e => excB K (He.ga K e.1)
theorem excTab_ok {K : PySem.W.Frag} {T : XTab} (k : excTab K T = true) {c : Str} {x : CN} {b : Bool} (h : isxT T c x = some b) : ExK K (He.ga K c) := excB_ok (List.all_eq_true.mp k _ (isxT_mem h))
section
variable {K : PySem.W.Frag} {bx : Bxs} {Wd' : Wd} {H : Hp} {T : XTab}
theorem Rep.exc {c : Str} {ns : List Str} {ds : List D} {v : V} (h : Rep K bx Wd' H (.exc c ns ds) v) : ∃ a od xs, v = .ref a ∧ Rd H a (exH a (He.ga K c) od) ∧ ns.length = ds.length ∧ ((od = none ∧ ns = []) ∨ ∃ d, od = some d ∧ Rd H d (.xd (ns.zip xs))) ∧ RepL K bx Wd' H ds xs := by
  unfold Rep at h; exact h
theorem Rep.glo {x : Str} {v : V} (h : Rep K bx Wd' H (.glo x) v) : v = .ref (He.ga K x) := by unfold Rep at h; exact h
theorem clsD_rep {d : D} {x : CN} {v : V} {u : Value} (h : Rep K bx Wd' H d v) (e : clsD d = some x) (r : RelV v u) : u = x.val K := by
  unfold clsD at e
  split at e
  · cases e; rw [h.glo] at r; exact r
  · cases e; rw [h.ty] at r; exact r
  · cases e
/-- the instance as the library's rules ask it -/
theorem exc_inst {P : Program} {w : World} {h : Heap} {c : Str} {ns : List Str} {ds : List D} {v : V} {u : Value} (x : HOk P w H h) (q : Rep K bx Wd' H (.exc c ns ds) v) (r : RelV v u) :
    ∃ a ox od, v = .ref a ∧ u = .ref a ∧ PySem.W.InstAt h a ox (He.ga K c) od := by
  obtain ⟨a, od, xs, rfl, h1, _, h2, _⟩ := q.exc
  have r : u = Value.ref a := r
  have q1 : ObjOk P w H h a (exH a (He.ga K c) od) := h1.ok x
  obtain ⟨⟨oe, e1, ⟨z1, z2⟩, vs, hd⟩, _⟩ := q1
  rcases h2 with ⟨rfl, _⟩ | ⟨d, rfl, h2⟩
  · refine ⟨a, oe, none, rfl, r, ?_⟩
    obtain ⟨oc, oo, oda, osl⟩ := oe
    dsimp only at z1 z2 hd
    subst z1 z2 hd
    exact ⟨e1, rfl, rfl, trivial⟩
  · have q2 : ObjOk P w H h d (.xd (ns.zip xs)) := h2.ok x
    obtain ⟨mA, hns, hr⟩ := q2
    obtain ⟨od', ho, hl⟩ := lookIn_ns hns
    refine ⟨a, oe, some od', rfl, r, ⟨e1, z1, by unfold PySem.W.notCls; rw [hd] <;> rfl, by rw [z2]; exact ho⟩⟩
theorem kitAny_isx (k : kitTab K T = true) {c : Str} : ∀ {ds : List D} {xs : List V} {us : List Value} {b : Bool}, RepL K bx Wd' H ds xs → Vals xs us → ds.all (fun d => (clsD d).isSome) = true → isxAll T c ds = some b → PySem.W.kitAny K (.ref (He.ga K c)) us = some b
  | [], xs, us, b, h, r, _, e => by
    rw [h.unnil] at r
    cases r
    cases e
    rfl
  | d :: ds, xs, us, b, h, r, ha, e => by
    obtain ⟨v, vs', rfl, h1, h2⟩ := h.uncons
    cases r with
    | cons rv rr =>
      simp only [List.all_cons, Bool.and_eq_true] at ha
      obtain ⟨x, hx⟩ := Option.isSome_iff_exists.mp ha.1
      have hu := clsD_rep h1 hx rv
      subst hu
      unfold isxAll at e
      rw [hx] at e
      simp only at e
      cases q : isxT T c x with
      | none => rw [q] at e; cases e
      | some b1 =>
        rw [q] at e
        refine kitAny_cons (kitTab_ok k q) (fun hb => ?_) (fun hb => ?_)
        · subst hb
          exact kitAny_isx k h2 rr ha.2 e
        · subst hb
          cases e; rfl
end
section
variable {X : Cx} {T : XTab}
theorem call_isxD (k : kitTab X.K T = true) (kx : excTab X.K T = true) : CallR X (.builtin "isinstance") (Pu X.K (isxD T)) := by
  intro pins s σ H xs us Q I r h
  obtain ⟨bx, W, ds, t, q, e, kk⟩ := h
  unfold isxD at e
  split at e
  · rename_i c ns ds' d ds
    split at e
    · rename_i hall
      obtain ⟨b, e1, rfl⟩ := Option.map_eq_some_iff.mp e
      obtain ⟨v, xs1, rfl, q1, q2⟩ := q.uncons
      obtain ⟨v2, xs2, rfl, q3, q4⟩ := q2.uncons
      rw [q4.unnil] at r
      obtain ⟨u1, u2, rfl, r1, r2⟩ := vals2 r
      obtain ⟨a, ox, od, rfl, rfl, IA⟩ := exc_inst I.hok q1 r1
      obtain ⟨tp, ts, rfl, hsq, hrl⟩ := q3.tup
      cases (show u2 = Value.ref tp from r2)
      obtain ⟨its, rv, ⟨o, h1, h2, n, h3⟩, _⟩ := I.tuple hsq
      obtain ⟨oc, od2, dt, sl⟩ := o
      simp only at h2 h3
      subst h2 h3
      have hc : ExK X.K (He.ga X.K c) := by
        unfold isxAll at e1
        cases hx : clsD d with
        | none => rw [hx] at e1; cases e1
        | some x =>
          rw [hx] at e1
          simp only at e1
          cases hq : isxT T c x with
          | none => rw [hq] at e1; cases e1
          | some b1 => exact excTab_ok kx hq
      obtain ⟨cdD, hcD, _⟩ := PySem.W.any_some hc.hd
      have cl : (PySem.W.clsIn X.K (He.ga X.K c)).isSome = true := by rw [hcD]; rfl
      exact PySem.W.kia_tup (PySem.W.kitx_exc cl hc.hg hc.hk hc.hs hc.ha hc.hn hc.ht hc.hm) I.kIn IA h1 (kitAny_isx k hrl rv hall e1) (fun z => nomatch z) fun tk => ⟨.bl b, H, I.tok tk, rfl, kk _ H Grow.refl (ResN.old Rep.mbl)⟩
    · cases e
  · rename_i c ns ds' d hnt
    obtain ⟨x, hx, e2⟩ := Option.bind_eq_some_iff.mp e
    obtain ⟨b, e1, rfl⟩ := Option.map_eq_some_iff.mp e2
    obtain ⟨v, xs1, rfl, q1, q2⟩ := q.uncons
    obtain ⟨v2, xs2, rfl, q3, q4⟩ := q2.uncons
    rw [q4.unnil] at r
    obtain ⟨u1, u2, rfl, r1, r2⟩ := vals2 r
    obtain ⟨a, ox, od, rfl, rfl, IA⟩ := exc_inst I.hok q1 r1
    have hu := clsD_rep q3 hx r2
    subst hu
    have hc := excTab_ok kx e1
    obtain ⟨cdD, hcD, _⟩ := PySem.W.any_some hc.hd
    have cl : (PySem.W.clsIn X.K (He.ga X.K c)).isSome = true := by rw [hcD]; rfl
    exact PySem.W.kia_one (PySem.W.kitx_exc cl hc.hg hc.hk hc.hs hc.ha hc.hn hc.ht hc.hm) I.kIn IA (kitTab_ok k e1) (fun z => nomatch z) fun tk => ⟨.bl b, H, I.tok tk, rfl, kk _ H Grow.refl (ResN.old Rep.mbl)⟩
  · cases e
/-- which classes' instances may be asked for which field -/
abbrev FTab := List (Str × Str)
def fldTab (K : PySem.W.Frag) (T : FTab) : Bool := T.all fun e => excB K (He.ga K e.1) && decide (PySem.W.findIn K (.ref (He.ga K e.1)) e.2 = some none)
def lkD : List Str → List D → Str → Option D
  | n :: ns, d :: ds, f => if n = f then some d else lkD ns ds f
  | _, _, _ => none
def atM (T : FTab) (f : Str) (m : M DB) : M DB := do
  let t ← m
  lift (match t.1 with
    | .exc c ns ds => if T.contains (c, f) then (lkD ns ds f).map fun d => (d, false) else none
    | _ => none)
theorem lkD_zip {K : PySem.W.Frag} {bx : Bxs} {W : Wd} {H : Hp} {f : Str} : ∀ {ns : List Str} {ds : List D} {xs : List V} {d : D}, RepL K bx W H ds xs → lkD ns ds f = some d → ∃ v, (ns.zip xs).lookup f = some v ∧ Rep K bx W H d v
  | [], ds, xs, d, _, e => by cases ds <;> cases e
  | n :: ns, [], xs, d, _, e => by cases e
  | n :: ns, d' :: ds, xs, d, h, e => by
    obtain ⟨v, vs', rfl, h1, h2⟩ := h.uncons
    unfold lkD at e
    split at e
    · rename_i hn
      cases e
      subst hn
      exact ⟨v, by simp [List.zip_cons_cons, List.lookup], h1⟩
    · rename_i hn
      obtain ⟨v2, e2, h3⟩ := lkD_zip h2 e
      have hne : (f == n) = false := by simpa using fun z => hn z.symm
      exact ⟨v2, by simp [List.zip_cons_cons, List.lookup, hne, e2], h3⟩
theorem se_at {FT : FTab} {e : Expr} {f : Str} {m : M DB} {pos : Pos} (k : fldTab X.K FT = true) (he : SE X e m) (hb : attributeBase e f X.env (eval e X.env) = eval e X.env := by rfl) : SE X (.Attribute e f pos) (atM FT f m) := by
  refine ⟨fun pins s σ H Q I h => ?_⟩
  obtain ⟨F, T, bx, s0, r, t, s', ee, kk⟩ := h
  obtain ⟨x, s1, e1, ee⟩ := bind_ok ee
  obtain ⟨e2, rfl⟩ := lift_ok ee
  refine attr_of hb (thn (he.d.run pins s σ H (fun v H1 => ∃ bx1, Stp X.K F T bx s0 σ H bx1 T s' σ H1 ∧ Rep X.K bx1 (Wf F s' σ T) H1 x.1 v) I ⟨F, T, bx, s0, r, x.1, s', by rw [bind_run, e1]; rfl, fun v bx1 H1 x1 q1 => ⟨bx1, x1, q1⟩⟩) fun u s2 hh => ?_)
  obtain ⟨v, H1, I1, rv, bx1, x1, q1⟩ := hh
  split at e2
  · rename_i c ns ds hx
    rw [hx] at q1
    split at e2
    · rename_i hc
      obtain ⟨d, e3, rfl⟩ := Option.map_eq_some_iff.mp e2
      have hf := List.all_eq_true.mp k (c, f) (List.contains_iff_mem.mp hc)
      simp only [Bool.and_eq_true, decide_eq_true_eq] at hf
      have hcE := excB_ok hf.1
      obtain ⟨a, od, xs, rfl, h1, hl, h2, h3⟩ := q1.exc
      cases (show u = Value.ref a from rv)
      obtain ⟨w, e4, q4⟩ := lkD_zip h3 e3
      rcases h2 with ⟨_, rfl⟩ | ⟨dd, rfl, h2⟩
      · cases e4
      · have o1 : ObjOk X.prog X.w H1 s2.heap a (exH a (He.ga X.K c) (some dd)) := h1.ok I1.hok
        obtain ⟨⟨oe, e5, ⟨z1, z2⟩, vs, hd⟩, _⟩ := o1
        have o2 : ObjOk X.prog X.w H1 s2.heap dd (.xd (ns.zip xs)) := h2.ok I1.hok
        obtain ⟨mA, hns, hr⟩ := o2
        obtain ⟨od', ho, hl'⟩ := lookIn_ns hns
        obtain ⟨u', hu, ru⟩ := RelO.some_of (v := w) (o := mA f) (by rw [← e4]; exact hr f)
        have J : PySem.W.InstAt s2.heap a oe (He.ga X.K c) (some od') := ⟨e5, z1, by unfold PySem.W.notCls; rw [hd] <;> rfl, by rw [z2]; exact ho⟩
        exact HandSPX.exc_get I1.kIn J hcE.hg hcE.hk hcE.hs (PySem.W.findObj_own hcE.hd hf.2 rfl (by rw [hl', hu])) (handed_of ru) ⟨w, H1, I1.tok _, ru, kk w bx1 H1 x1 (Res.old q4)⟩
    · cases e2
  · cases e2
end
end L2.Pd
set_option maxHeartbeats 4000000
namespace L2.Pd
open PySem PySem.Spec PyProof.Rows

def oexB (K : PySem.W.Frag) (C : Addr) : Bool := (match K.lookup C with
  | some ⟨.type t, _, .cls cd, sl⟩ => (match cd.mro, sl.toList with
    | .ref C' :: bm, [_, _, _, _, some (.builtin n), _] => t == "type" && (C' == C && (n == "ValueError.__new__" && (!cd.hasDel && (cd.hasDict && PySem.HandSPX.refsVE bm))))
    | _, _ => false)
  | _ => false) && (decide (PySem.W.findIn K (.ref C) "__setattr__" = some (some (.builtin "object.__setattr__"))) && (decide (PySem.W.subIn K (.ref C) (.type "BaseException") = some true) && (decide (PySem.W.typeIn K (.ref C) = some (.type "type")) && PySem.W.keepIn K (.ref C))))
theorem oexB_ok {K : PySem.W.Frag} {C : Addr} (h : oexB K C = true) : OexC K C := by
  unfold oexB at h
  simp only [Bool.and_eq_true, decide_eq_true_eq] at h
  obtain ⟨h0, h1, h2, h3, h4⟩ := h
  refine ⟨?_, h1, h2, h3, h4⟩
  split at h0
  · rename_i t dd cd sl ho
    split at h0
    · rename_i C' bm k0 k1 k2 k3 n k5 hm hs
      simp only [Bool.and_eq_true, beq_iff_eq, Bool.not_eq_true'] at h0
      obtain ⟨rfl, rfl, rfl, hdel, hdict, hbm⟩ := h0
      obtain ⟨nm, bs, mro, ns, qn, hd, sn, sub, ab, col, del⟩ := cd
      dsimp only at hm hdel hdict
      subst hm hdel hdict
      have hsl : sl = #[k0, k1, k2, k3, some (.builtin "ValueError.__new__"), k5] := by
        obtain ⟨l⟩ := sl
        simp only at hs
        rw [hs]
      subst hsl
      exact ⟨nm, qn, ns, bs, bm, sn, sub, ab, col, dd, k0, k1, k2, k3, k5, ho, hbm⟩
    · cases h0
  · cases h0
def iniA (K : PySem.W.Frag) (c : Str) : Addr := He.ma K (He.ga K c) "__init__"
/-- what the written part says of such a class, its field f -/
def ownB (K : PySem.W.Frag) (c f : Str) : Bool := oexB K (He.ga K c) && (decide (PySem.W.findIn K (.ref (He.ga K c)) "__init__" = some (some (.ref (iniA K c)))) && (decide (PySem.W.typeIn K (.ref (iniA K c)) = some (.type "function")) && decide (PySem.W.findIn K (.ref (He.ga K c)) f = some none)))
/-- the promise of its __init__ -/
def spI (C : Addr) (f : Str) : Sp := fun vs H Q _ => ∃ a y, vs = [.ref a, y] ∧ H a = some (exo a C none) ∧ ∀ dx, H dx = none → dx ≠ a → Q .non (upd (upd H dx (exd dx [(f, y)])) a (exo a C (some dx)))
theorem spI_body {X : Cx} {C : Addr} {f : Str} {H : Hp} {vs : List V} {Q : VK} {E : XK} {σ : St} (T : OexC X.K C) (hno : PySem.W.findIn X.K (.ref C) f = some none) (h : spI C f vs H Q E) (e0 : σ[0]? = some (vs[0]?)) (e1 : σ[1]? = some (vs[1]?)) :
    tOst X.K f (tVar 0) (tVar 1) { nx := fun _ H' => Q .non H', rt := Q } σ H := by
  obtain ⟨a, y, rfl, ha, k⟩ := h
  exact ⟨y, e1, .ref a, e0, a, C, rfl, T, hno, .inl ⟨ha, fun dx h1 h2 => k dx h1 h2⟩⟩
section
variable {X : Cx} {W : WX}
theorem sx_raise1 {c f : Str} {fd : FuncData} {ps : List Str} {k : Nat} {e : Expr} {mr : M (List D)} {p pos pos2 : Pos} (hc : X.calm = true) (tk : Takes X W) (hB : ownB X.K c f = true) (F1 : FnOk X.prog X.w X.K X.mg X.base CX0 k (iniA X.K c) fd ps (spI (He.ga X.K c) f)) (hr : Room (k + 1) X.A) (hb : Binds X.K fd ps [])
    (hg : Gl X c) (hm : X.mg c = some (.ref (He.ga X.K c))) (ha : SA X [e] mr) (hdb : (c == ("__debug__" : Str)) = false := by decide)
    (he : starEach (e :: []) X.env = (false, eval e X.env) :: starEach [] X.env := by rfl) (hpl : (backTo pos (starEach [] X.env)).any (·.1) = false := by rfl) :
    SX W X (.Raise (some (.Call (.Name c p) [e] [] pos)) none pos2) (raise1 c f mr) := by
  unfold ownB at hB
  simp only [Bool.and_eq_true, decide_eq_true_eq] at hB
  obtain ⟨h1, h2, h3, h4⟩ := hB
  refine PS.weak (ps_raise hc tk (pmk_oex (oexB_ok h1) h2 h3 F1 hr hb (.nil : Vals [] []) pass0 hg hm ha hdb he hpl)) fun D σ H h => ?_
  obtain ⟨F, T, bx, s, r, hh⟩ := h
  rcases hh with ⟨fl, s', ee, kk⟩ | ⟨ee, s', ez, kk⟩
  · obtain ⟨ds, s1, e1, ee⟩ := bind_okN ee
    split at ee <;> cases ee
  · obtain ⟨ds, s1, e1, ez⟩ := bind_exN ez
    refine ⟨F, T, bx, s, r, ds, s1, e1, fun vs bx1 H1 x1 q1 => ?_⟩
    split at ez
    · rename_i d
      cases ez
      obtain ⟨y, ys, rfl, q2, q3⟩ := q1.uncons
      rw [q3.unnil]
      refine ⟨by show 1 ≤ 1000; decide, fun a na => ⟨a, y, rfl, upd_same, fun dx hd hne => ⟨rfl, dx, [(f, y)], upd_same, ?_, ?_, ?_⟩⟩⟩
      · rw [upd_ne hne]; exact upd_same
      · rw [upd_ne hne] at hd; exact hd
      · have hd : H1 dx = none := by rw [upd_ne hne] at hd; exact hd
        have eH : upd (del (upd (upd (upd H1 a (exo a (He.ga X.K c) none)) dx (exd dx [(f, y)])) a (exo a (He.ga X.K c) (some dx))) a) dx (.xd [(f, y)]) = upd H1 dx (.xd [(f, y)]) := by
          funext b
          by_cases hb : b = dx
          · rw [hb, upd_same, upd_same]
          · rw [upd_ne hb, upd_ne hb]
            by_cases hba : b = a
            · rw [hba, del_same, na]
            · rw [del_ne hba, upd_ne hba, upd_ne hb, upd_ne hba]
        rw [eH]
        have xg : Stp X.K F T bx1 s' σ H1 bx1 T s' σ (upd H1 dx (.xd [(f, y)])) := Stp.grow x1.rel (Grow.new hd) (fun _ z => .inl z) (fun _ z => z)
        refine kk _ _ bx1 σ _ (x1.trans xg) ⟨rfl, rfl, [y], .cons (xg.tr _ _ q2) .nil, .inr ⟨dx, rfl, .inl upd_same⟩⟩
    · cases ez
end
end L2.Pd
set_option maxHeartbeats 4000000
namespace L2.Pd
open PySem PySem.Spec PyProof.Rows

abbrev VTab := List (Str × Fn)
def pickV (tab : VTab) : D → Option Fn
  | .glo x => tab.lookup x
  | _ => none
def callV (tab : VTab) (mf : M DB) (mr : M (List D)) : M DB := do
  let g ← nex mf
  let ds ← nex mr
  let fn ← lift (pickV tab g.1)
  runF fn ds
def callVK (tab : VTab) (n2 : Nat) (sl : List Sel) (mf : M DB) (mk : M (List D)) : M DB := do
  let g ← nex mf
  let es ← nex mk
  let fn ← lift (pickV tab g.1)
  if es.length = n2 then runF fn (pickS .non [] [] es sl) else lift none
theorem lift_ex {α : Type} {o : Option α} {s s' : S} {e : Exn} (h : lift o s = .ex e s') : False := by
  cases o <;> cases h
structure VEnt (X : Cx) (k0 : Nat) (x : Str) (fn : Fn) : Prop where
  ex : ∃ k n, k ≤ k0 ∧ DefX X.prog X.w X.K X.mg X.base x k n fn [] ∧ X.mg x = some (.ref (He.ga X.K x))
structure VEntK (X : Cx) (k0 : Nat) (ks : List Str) (sl : List Sel) (x : Str) (fn : Fn) : Prop where
  ex : ∃ k n, k ≤ k0 ∧ DefKX X.prog X.w X.K X.mg X.base x k n fn 0 ks [] sl ∧ X.mg x = some (.ref (He.ga X.K x))
theorem pickV_some {tab : VTab} {d : D} {fn : Fn} (h : pickV tab d = some fn) : ∃ x, d = .glo x ∧ (x, fn) ∈ tab := by
  unfold pickV at h
  split at h
  · rename_i x
    refine ⟨x, rfl, ?_⟩
    induction tab with
    | nil => cases h
    | cons p r ih =>
      obtain ⟨y, f⟩ := p
      by_cases e : x = y
      · subst e
        rw [List.lookup_cons_self] at h
        cases h
        exact List.mem_cons_self
      · rw [List.lookup_cons, show (x == y) = false by simpa using e] at h
        exact List.mem_cons_of_mem _ (ih h)
  · cases h
section
variable {X : Cx} {W : WX} {tab : VTab} {k0 : Nat} {mf : M DB} {mr mk : M (List D)} {v i e : Expr} {es : List Expr} {q pos : Pos} {ks : List Str} {sl : List Sel} {kws : List Keyword}
theorem rdV {σ : St} {H : Hp} {Q : VK} (hT : ∀ p ∈ tab, VEnt X k0 p.1 p.2) (h : rdTx X.K W (callV tab mf mr) σ H Q) :
    rdD X.K (do let t ← mf; Pure.pure t.1) σ H fun u H1 => ∃ x fn k n, u = .ref (He.ga X.K x) ∧ k ≤ k0 ∧ DefX X.prog X.w X.K X.mg X.base x k n fn [] ∧ X.mg x = some (.ref (He.ga X.K x)) ∧ rdA X.K mr σ H1 fun vs H2 => spX X.K n fn vs H2 Q (WE W σ) := by
  obtain ⟨F, T, bx, s, r, ⟨t, s', e, k⟩ | ⟨ee, s', e, k⟩⟩ := h
  · obtain ⟨g, s1, e1, e⟩ := bind_okN e
    obtain ⟨ds, s2, e2, e⟩ := bind_okN e
    obtain ⟨fn, s3, e3, ez⟩ := bind_ok e
    obtain ⟨e4, rfl⟩ := lift_ok e3
    obtain ⟨x, hg, hm⟩ := pickV_some e4
    obtain ⟨kk, n, hk, G, hx⟩ := (hT _ hm).ex
    refine ⟨F, T, bx, s, r, g.1, s1, by rw [bind_run, e1]; rfl, fun u bx1 H1 x1 q1 => ⟨x, fn, kk, n, ?_, hk, G, hx, F, T, bx1, s1, x1.rel, ds, s3, e2, fun vs bx2 H2 x2 q2 => ?_⟩⟩
    · rw [hg] at q1; exact q1.glo
    · exact spX_of G.ar G.arx x2.rel q2 (.inl ⟨t, s', ez, fun v bx3 H3 x3 q3 => k v bx3 H3 ((x1.trans x2).trans x3) q3⟩)
  · obtain ⟨g, s1, e1, e⟩ := bind_exN e
    obtain ⟨ds, s2, e2, e⟩ := bind_exN e
    rcases bind_ex e with ez | ⟨fn, s3, e3, ez⟩
    · exact (lift_ex ez).elim
    obtain ⟨e4, rfl⟩ := lift_ok e3
    obtain ⟨x, hg, hm⟩ := pickV_some e4
    obtain ⟨kk, n, hk, G, hx⟩ := (hT _ hm).ex
    refine ⟨F, T, bx, s, r, g.1, s1, by rw [bind_run, e1]; rfl, fun u bx1 H1 x1 q1 => ⟨x, fn, kk, n, ?_, hk, G, hx, F, T, bx1, s1, x1.rel, ds, s3, e2, fun vs bx2 H2 x2 q2 => ?_⟩⟩
    · rw [hg] at q1; exact q1.glo
    · exact spX_of G.ar G.arx x2.rel q2 (.inr ⟨ee, s', ez, fun cls d bx3 H3 x3 q3 => k cls d bx3 H3 ((x1.trans x2).trans x3) q3⟩)
theorem sex_callV (tk : Takes X W) (hT : ∀ p ∈ tab, VEnt X k0 p.1 p.2) (hgd : X.A.guards = some []) (hr : Room k0 X.A) (hf : SE X (.Subscript v i q) mf) (ha : SA X (e :: es) mr)
    (he : starEach (e :: es) X.env = (false, eval e X.env) :: starEach es X.env := by rfl) (hpl : (backTo pos (starEach es X.env)).any (·.1) = false := by rfl)
    (hc : eval (.Call (.Subscript v i q) (e :: es) [] pos) X.env = (do callWith pos (← eval (.Subscript v i q) X.env) [] (backTo pos (starEach (e :: es) X.env)) (backToKw pos (keywordEach [] X.env))) := by rfl) : SEX W X (.Call (.Subscript v i q) (e :: es) [] pos) (callV tab mf mr) := by
  constructor
  intro pins s σ H Q I h
  rw [hc]
  refine wpAny_bind (thn (hf.d.run pins s σ H _ I (rdV hT h)) fun u s1 ⟨uv, H1, I1, ru, x, fn, k, n, hu, hk, G, hx, q1⟩ => ?_)
  subst hu
  cases (show u = Value.ref _ from ru)
  obtain ⟨f, fd, ps, ds, dvs, F, hm, hkp, hb, hd, hdd⟩ := G.ex
  have ef := hx.symm.trans hm
  obtain rfl : He.ga X.K x = f := by injection ef with e1; injection e1
  refine PySem.W.callWith_K (first := []) I1.ok.mod.kin hkp ?_ he hpl
  have hz : dvs = [] := (hdd [] (fun _ => False) (fun _ => none)).unnil
  subst hz
  refine thn (ha.run pos pins s1 σ H1 _ I1 q1) ?_
  rintro us t ⟨vs, H2, J, r, q⟩
  cases hd
  refine ⟨J.kIn, calledX tk F hgd (hr.mono hk) J (us := us) ?_ r q⟩
  have := hb t us J.kIn (by rw [List.append_nil, ← r.length]; exact F.arity q)
  simpa using this
theorem rdVK {σ : St} {H : Hp} {Q : VK} (hT : ∀ p ∈ tab, VEntK X k0 ks sl p.1 p.2) (h : rdTx X.K W (callVK tab ks.length sl mf mk) σ H Q) :
    rdD X.K (do let t ← mf; Pure.pure t.1) σ H fun u H1 => ∃ x fn k n, u = .ref (He.ga X.K x) ∧ k ≤ k0 ∧ DefKX X.prog X.w X.K X.mg X.base x k n fn 0 ks [] sl ∧ X.mg x = some (.ref (He.ga X.K x)) ∧ rdA X.K mk σ H1 fun zs H2 => zs.length = ks.length ∧ spX X.K n fn (pickS .non [] [] zs sl) H2 Q (WE W σ) := by
  obtain ⟨F, T, bx, s, r, ⟨t, s', e, k⟩ | ⟨ee, s', e, k⟩⟩ := h
  · obtain ⟨g, s1, e1, e⟩ := bind_okN e
    obtain ⟨ds, s2, e2, e⟩ := bind_okN e
    obtain ⟨fn, s3, e3, ez⟩ := bind_ok e
    obtain ⟨e4, rfl⟩ := lift_ok e3
    obtain ⟨x, hg, hm⟩ := pickV_some e4
    obtain ⟨kk, n, hk, G, hx⟩ := (hT _ hm).ex
    split at ez
    · rename_i c
      refine ⟨F, T, bx, s, r, g.1, s1, by rw [bind_run, e1]; rfl, fun u bx1 H1 x1 q1 => ⟨x, fn, kk, n, ?_, hk, G, hx, F, T, bx1, s1, x1.rel, ds, s3, e2, fun vs bx2 H2 x2 q2 => ⟨by rw [← q2.length]; exact c, ?_⟩⟩⟩
      · rw [hg] at q1; exact q1.glo
      · have q3 : RepL X.K bx2 (Wf F s3 σ T) H2 (pickS .non [] [] ds sl) (pickS .non [] [] vs sl) := RepL.pick .nil .nil q2 sl (by rw [c]; exact G.ok)
        exact spX_sel (by unfold pickS; rw [List.length_map]; exact G.len) x2.rel q3 (.inl ⟨t, s', ez, fun v bx3 H3 x3 q3 => k v bx3 H3 ((x1.trans x2).trans x3) q3⟩)
    · cases ez
  · obtain ⟨g, s1, e1, e⟩ := bind_exN e
    obtain ⟨ds, s2, e2, e⟩ := bind_exN e
    rcases bind_ex e with ez | ⟨fn, s3, e3, ez⟩
    · exact (lift_ex ez).elim
    obtain ⟨e4, rfl⟩ := lift_ok e3
    obtain ⟨x, hg, hm⟩ := pickV_some e4
    obtain ⟨kk, n, hk, G, hx⟩ := (hT _ hm).ex
    split at ez
    · rename_i c
      refine ⟨F, T, bx, s, r, g.1, s1, by rw [bind_run, e1]; rfl, fun u bx1 H1 x1 q1 => ⟨x, fn, kk, n, ?_, hk, G, hx, F, T, bx1, s1, x1.rel, ds, s3, e2, fun vs bx2 H2 x2 q2 => ⟨by rw [← q2.length]; exact c, ?_⟩⟩⟩
      · rw [hg] at q1; exact q1.glo
      · have q3 : RepL X.K bx2 (Wf F s3 σ T) H2 (pickS .non [] [] ds sl) (pickS .non [] [] vs sl) := RepL.pick .nil .nil q2 sl (by rw [c]; exact G.ok)
        exact spX_sel (by unfold pickS; rw [List.length_map]; exact G.len) x2.rel q3 (.inr ⟨ee, s', ez, fun cls d bx3 H3 x3 q3 => k cls d bx3 H3 ((x1.trans x2).trans x3) q3⟩)
    · exact (lift_ex ez).elim
theorem sex_callVK (tk : Takes X W) (hT : ∀ p ∈ tab, VEntK X k0 ks sl p.1 p.2) (hgd : X.A.guards = some []) (hr : Room k0 X.A) (hf : SE X (.Subscript v i q) mf) (hkw : SK X kws mk) (hall : (backToKw pos (keywordEach kws X.env)).all (·.1.isSome) = true := by rfl) (hks : (backToKw pos (keywordEach kws X.env)).filterMap (·.1) = ks := by rfl)
    (hpl : ((backTo pos (starEach [] X.env)).any (·.1) || (backToKw pos (keywordEach kws X.env)).any (·.1.isNone)) = false := by rfl)
    (hc : eval (.Call (.Subscript v i q) [] kws pos) X.env = (do callWith pos (← eval (.Subscript v i q) X.env) [] (backTo pos (starEach [] X.env)) (backToKw pos (keywordEach kws X.env))) := by rfl) : SEX W X (.Call (.Subscript v i q) [] kws pos) (callVK tab ks.length sl mf mk) := by
  constructor
  intro pins s σ H Q I h
  rw [hc]
  refine wpAny_bind (thn (hf.d.run pins s σ H _ I (rdVK hT h)) fun u s1 ⟨uv, H1, I1, ru, x, fn, k, n, hu, hk, G, hx, q1⟩ => ?_)
  subst hu
  cases (show u = Value.ref _ from ru)
  obtain ⟨f, fd, ps, its, dvs, F, hm, hkp, hb, hd, hdd⟩ := G.ex
  have ef := hx.symm.trans hm
  obtain rfl : He.ga X.K x = f := by injection ef with e1; injection e1
  have hz : dvs = [] := (hdd [] (fun _ => False) (fun _ => none)).unnil
  subst hz
  refine PySem.W.callWith_KW0 (first := []) (h₀ := X.base) I1.ok.mod.kin hkp hall ?_ hpl
  refine thn (hkw.run pos pins s1 σ H1 _ I1 q1) fun ws s2 ⟨zs, H2, I2, rz, l2, q2⟩ => ⟨I2.kIn, ?_⟩
  rw [hks]
  exact run_fnKX (us := []) (vs := []) tk F hgd (hr.mono hk) hb hd I2 .nil rz rfl l2 G.ok q2
end
end L2.Pd
set_option maxHeartbeats 4000000
namespace L2.Pd
open PySem PySem.Spec PyProof.Rows
section
variable {P : Program} {w : World} {K : PySem.W.Frag} {mg : Str → Option Value} {base : Heap} {x qual : Str} {params : Arguments} {body : List Stmt} {scope : Scope} {f : Addr} {fd : FuncData} {ps : List Str} {k n : Nat} {fn : Fn}
theorem defX_all {kws : List (Str × V)} (F : FunD K x qual params body scope [] kws f fd) (hm : mg x = some (.ref f)) (G : FnOkG P w K mg base (L2.CX P w) k f fd ps (spX K n fn)) (ar : Ar fn n) (arx : ArX fn n)
    (h : ∀ (kV doc pm : Value) (an : Option Addr) (cdv ct : Value) (us : List Value), us.length = ps.length → bindArgs (PySem.W.fnOf x qual params body scope .none kV doc pm an cdv ct) ⟨us, []⟩ = pure (ps.zip us)) : DefX P w K mg base x k n fn [] :=
  ⟨⟨f, fd, ps, [], [], G, hm, F.kp, F.bindsN h, .nil, fun _ _ _ => .nil⟩, ar, arx⟩
theorem defX_dfl {dvs : List V} {kws : List (Str × V)} {dd : List D} (F : FunD K x qual params body scope dvs kws f fd) (hm : mg x = some (.ref f)) (G : FnOkG P w K mg base (L2.CX P w) k f fd ps (spX K n fn)) (ar : Ar fn n) (arx : ArX fn n) (m j : Nat) (hd : dvs ≠ []) (hn : m + (dvs.length - j) = ps.length)
    (hdd : ∀ bx W H, RepL K bx W H dd (dvs.drop j))
    (h : ∀ (T : Addr) (kV doc pm : Value) (an : Option Addr) (cdv ct : Value) (us its : List Value), us.length = m → its.length = dvs.length →
      ∃ k, bindArgs (PySem.W.fnOf x qual params body scope (.ref T) kV doc pm an cdv ct) ⟨us, []⟩ = seqItems? (.ref T) >>= k ∧ k (some its.toArray) = pure (ps.zip (us ++ its.drop j))) : DefX P w K mg base x k n fn dd := by
  obtain ⟨ds, h1, h2⟩ := F.binds1 m j hd hn h
  exact ⟨⟨f, fd, ps, ds, dvs.drop j, G, hm, F.kp, h2, h1, hdd⟩, ar, arx⟩
theorem defKX_of {dvs : List V} {kws : List (Str × V)} {dd : List D} {n1 : Nat} {ks : List Str} {sl : List Sel} (F : FunD K x qual params body scope dvs kws f fd) (hm : mg x = some (.ref f)) (G : FnOkG P w K mg base (L2.CX P w) k f fd ps (spX K n fn))
    (hb : ∃ its, Vals dvs its ∧ KB K fd ps n1 ks sl its) (hdd : ∀ bx W H, RepL K bx W H dd dvs) (hok : sl.all (Sel.ok n1 dd.length ks.length) = true) (hl : sl.length = n) : DefKX P w K mg base x k n fn n1 ks dd sl := by
  obtain ⟨its, h1, h2⟩ := hb
  exact ⟨⟨f, fd, ps, its, dvs, G, hm, F.kp, h2, h1, hdd⟩, hl, hok⟩
/-- the own __init__ of a class, walked -/
theorem ini_of {c fl qual' : Str} {params' : Arguments} {body' : List Stmt} {scope' : Scope} {N ps' : List Str} (F : FunD K "__init__" qual' params' body' scope' [] [] f fd) (S : FnScope N ps' scope') (hN : ps'.length = 2) (hB : ownB K c fl = true)
    (hb : ∀ (cdv : Value) (A : Around) (outer : List Env) (s : Shared) (H : Hp) (E : XK), PSs (cxOf CX0 P w K mg base N qual' scope' f cdv A outer s H E) body' (tOst K fl (tVar 0) (tVar 1))) : FnOk P w K mg base CX0 1 f fd ps' (spI (He.ga K c) fl) := by
  obtain ⟨oc, od, dV, kV, doc, pm, an, cdv, ct, osl, rfl, lk, hcd, hD, hK⟩ := F.ex
  unfold ownB at hB
  simp only [Bool.and_eq_true, decide_eq_true_eq] at hB
  refine fn_of lk hcd S (fun vs H Q E h => ?_) (fun A outer s H vs Q E hr h => ?_)
  · obtain ⟨a, y, rfl, _⟩ := h
    rw [hN]; rfl
  · refine ⟨_, hb cdv A outer s H E, ?_⟩
    obtain ⟨a, y, rfl, ha, k⟩ := h
    exact spI_body (X := cxOf CX0 P w K mg base N qual' scope' f cdv A outer s H E) (E := E) (oexB_ok hB.1) hB.2.2.2 ⟨a, y, rfl, ha, k⟩ rfl rfl
theorem vent {X : Cx} {k0 k n : Nat} {x : Str} {fn : Fn} (G : DefX X.prog X.w X.K X.mg X.base x k n fn []) (hx : X.mg x = some (.ref (He.ga X.K x))) (hk : k ≤ k0 := by decide) : VEnt X k0 x fn := ⟨_, _, hk, G, hx⟩
theorem ventK {X : Cx} {k0 k n : Nat} {x : Str} {fn : Fn} {ks : List Str} {sl : List Sel} (G : DefKX X.prog X.w X.K X.mg X.base x k n fn 0 ks [] sl) (hx : X.mg x = some (.ref (He.ga X.K x))) (hk : k ≤ k0 := by decide) : VEntK X k0 ks sl x fn := ⟨_, _, hk, G, hx⟩
theorem rdT.toX {K : PySem.W.Frag} {W : WX} {m : M DB} {σ : St} {H : Hp} {Q : VK} (h : rdT K m σ H Q) : rdTx K W m σ H Q := by
  obtain ⟨F, T, bx, s, r, t, s', e, k⟩ := h
  exact ⟨F, T, bx, s, r, .inl ⟨t, s', e, k⟩⟩
theorem se_ofX {X : Cx} {e : Expr} {m : M DB} (h : SEX (fun _ _ _ _ => False) X e m) : SE X e m := PE.weak h fun _ _ _ q => q.toX
end

abbrev AlX : Type := Bool × He.AlD
def obsX (fx : PySem.W.Frag → Bool) (fa : List He.Fa) (fn : List He.DefD) (K : PySem.W.Frag) : AlX := (fx K, He.obsD fa fn K)
def valX (fn : List He.DefD) : AlX := (true, He.valD fn)
def SaysX (fx : PySem.W.Frag → Bool) (fa : List He.Fa) (fn : List He.DefD) (K : PySem.W.Frag) : Prop := obsX fx fa fn K = valX fn
def obsXG (n : Nat) (fx : PySem.W.Frag → Bool) (fa : List He.Fa) (fn : List He.DefD) (g : Addr → Option Obj) : AlX := obsX fx fa fn (He.frG g (He.asD g n))
def hookX (n : Nat) (fx : PySem.W.Frag → Bool) (fa : List He.Fa) (fn : List He.DefD) : PySem.W.Hook where
  α := AlX
  obs := fun s => obsXG n fx fa fn s.heap.get?
  val := fun _ => valX fn
  says := fun _ h => ∃ K : PySem.W.Frag, K.In h ∧ SaysX fx fa fn K
  of := fun _ _ e => ⟨_, He.frG_in, e⟩
  keeps := fun _ _ _ ⟨K, hK, c⟩ k => ⟨K, PySem.W.Frag.In.keeps hK k, c⟩
theorem obsXG_eq {n : Nat} {fx : PySem.W.Frag → Bool} {fa : List He.Fa} {fn : List He.DefD} {g : Addr → Option Obj} {s : Shared} (h : ∀ a, g a = s.heap.get? a) : obsXG n fx fa fn g = (hookX n fx fa fn).obs s := by
  have e : g = s.heap.get? := funext h
  rw [e] <;> rfl
theorem SaysX.d {fx : PySem.W.Frag → Bool} {fa : List He.Fa} {fn : List He.DefD} {K : PySem.W.Frag} (c : SaysX fx fa fn K) : He.SaysD fa fn K := congrArg (fun z : AlX => z.2) c
theorem SaysX.x {fx : PySem.W.Frag → Bool} {fa : List He.Fa} {fn : List He.DefD} {K : PySem.W.Frag} (c : SaysX fx fa fn K) : fx K = true := congrArg (fun z : AlX => z.1) c
end L2.Pd
set_option maxHeartbeats 4000000
namespace L2.Pd
open PySem PySem.Spec PyProof.Rows

/-- key, number, def -/
abbrev GTab := List (Str × Int × Str)
def entB (K : PySem.W.Frag) (a : Addr) (e : Str × Int × Str) : Bool := match PySem.W.nsIn K a e.1 with
  | some (some (.ref t)) => (match K.lookup t with
    | some ⟨.type c, _, .seq its _, _⟩ => decide (c = "tuple") && (match its.toList with
      | [u, v] => He.relB (.int e.2.1) u && He.relB (.ref (He.ga K e.2.2)) v
      | _ => false)
    | _ => false)
  | _ => false
def gtB (K : PySem.W.Frag) (x : Str) (T : GTab) : Bool := T.all (entB K (He.ga K x))
structure GTabOk (K : PySem.W.Frag) (w : World) (x : Str) (T : GTab) : Prop where
  ex : ∃ es n, KDict K w (He.ga K x) es n ∧ es.toList.map He.keyOf = He.keysIn w.params (T.map (·.1))
  ents : gtB K x T = true
theorem entB_ok {K : PySem.W.Frag} {a : Addr} {e : Str × Int × Str} (h : entB K a e = true) : ∃ (t : Addr) (o : Obj) (its : Array Value) (n : Nat), PySem.W.nsIn K a e.1 = some (some (.ref t)) ∧ K.lookup t = some o ∧ o.cls = .type "tuple" ∧ o.data = .seq its n ∧ its.size = 2 ∧ Vals [.int e.2.1, .ref (He.ga K e.2.2)] its.toList := by
  unfold entB at h
  split at h
  · rename_i t q
    split at h
    · rename_i c dd its n sl q2
      obtain ⟨h1, h2⟩ := Bool.and_eq_true_iff.mp h
      have h1 := of_decide_eq_true h1
      subst h1
      split at h2
      · rename_i u v q3
        obtain ⟨h3, h4⟩ := Bool.and_eq_true_iff.mp h2
        refine ⟨t, _, its, n, q, q2, rfl, rfl, ?_, ?_⟩
        · have := congrArg List.length q3
          simpa using this
        · rw [q3]
          exact .cons (He.relB_ok h3) (.cons (He.relB_ok h4) .nil)
      · cases h2
    · cases h
  · cases h
theorem keyOf_some {e : DictEntry} {x : Str} {h : Int} (q : He.keyOf e = some (x, h)) : ∃ t, e.key = .str x t := by
  unfold He.keyOf at q
  split at q
  · rename_i y t q2
    cases q
    exact ⟨t, q2⟩
  · cases q
theorem find_keys {P : Params} {z : Str} : ∀ {l : List DictEntry} {ks : List Str}, l.map He.keyOf = He.keysIn P ks → z ∉ ks → l.find? (·.key.isStr z) = none ∧ l.any (·.refKey) = false
  | [], _, _, _ => ⟨rfl, rfl⟩
  | e :: r, [], h, _ => by cases h
  | e :: r, k :: ks, h, hz => by
    have h1 : He.keyOf e :: r.map He.keyOf = some (k, PyData.keyHash P k) :: He.keysIn P ks := h
    injection h1 with h2 h3
    obtain ⟨t, ht⟩ := keyOf_some h2
    obtain ⟨i1, i2⟩ := find_keys h3 fun m => hz (List.mem_cons_of_mem _ m)
    have ne : e.key.isStr z = false := by
      rw [ht]
      show (_ : Bool) = false
      have : k ≠ z := fun q => hz (q ▸ List.mem_cons_self)
      simp [Value.isStr, this]
    have nr : e.refKey = false := by
      unfold DictEntry.refKey
      rw [ht]
    exact ⟨by rw [List.find?_cons, ne]; exact i1, by rw [List.any_cons, nr, i2]; rfl⟩
theorem lookup_mem {T : GTab} {z : Str} {p : Int × Str} (h : T.lookup z = some p) : (z, p) ∈ T := by
  induction T with
  | nil => cases h
  | cons e r ih =>
    obtain ⟨y, f⟩ := e
    by_cases c : z = y
    · subst c
      rw [List.lookup_cons_self] at h
      cases h
      exact List.mem_cons_self
    · rw [List.lookup_cons, show (z == y) = false by simpa using c] at h
      exact List.mem_cons_of_mem _ (ih h)
theorem lookup_none {T : GTab} {z : Str} (h : T.lookup z = none) : z ∉ T.map (·.1) := by
  induction T with
  | nil => simp
  | cons e r ih =>
    obtain ⟨y, f⟩ := e
    by_cases c : z = y
    · subst c
      rw [List.lookup_cons_self] at h
      cases h
    · rw [List.lookup_cons, show (z == y) = false by simpa using c] at h
      simp only [List.map_cons, List.mem_cons, not_or]
      exact ⟨c, ih h⟩
theorem GTabOk.look {K : PySem.W.Frag} {w : World} {x : Str} {T : GTab} (G : GTabOk K w x T) (z : Str) : ∃ r, PySem.W.nsIn K (He.ga K x) z = some r ∧ r.isSome = (T.lookup z).isSome := by
  obtain ⟨es, n, kd, hk⟩ := G.ex
  cases q : T.lookup z with
  | some p =>
    obtain ⟨t, _, _, _, e, _⟩ := entB_ok (List.all_eq_true.mp G.ents _ (lookup_mem q))
    exact ⟨_, e, rfl⟩
  | none =>
    obtain ⟨h1, h2⟩ := find_keys hk (lookup_none q)
    refine ⟨none, ?_, rfl⟩
    unfold PySem.W.nsIn
    rw [kd.at_]
    dsimp only
    rw [h1]
    dsimp only
    rw [h2]
    rfl
def notInG (x : Str) (T : GTab) : List D → Option DB
  | [.str z, .glo y] => if y = x then some (.bl (!(T.lookup z).isSome), false) else none
  | _ => none
def idxG (x : Str) (T : GTab) : List D → Option DB
  | [.glo y, .str z] => if y = x then (T.lookup z).map fun p => (.tup [.int p.1, .glo p.2], false) else none
  | _ => none
theorem blF_notInG {x : Str} {T : GTab} : BlF (notInG x T) := by
  intro ds t e
  unfold notInG at e
  split at e
  · split at e
    · cases e; exact ⟨_, rfl⟩
    · cases e
  · cases e
section
variable {X : Cx} {x : Str} {T : GTab}
theorem op_notInG (G : GTabOk X.K X.w x T) : OpR X (compareOp .NotIn) (P2 X.K (notInG x T)) := by
  intro pins s σ H a b v u Q I rx ry h
  obtain ⟨bx, W, ds, t, r, e, k⟩ := h
  obtain ⟨d1, d2, rfl, h1, h2⟩ := r.two
  unfold notInG at e
  split at e
  · rename_i z y q
    cases q
    split at e
    · rename_i hy
      cases e
      subst hy
      obtain ⟨es, n, kd, hk⟩ := G.ex
      obtain ⟨r0, e1, e2⟩ := G.look z
      rw [h1.str] at rx
      rw [h2.glo] at ry
      refine op_notIn_kd kd pins s σ H _ _ v u Q I rx ry ⟨z, r0, rfl, rfl, e1, ?_⟩
      rw [e2]
      exact k _ H Grow.refl (ResN.old Rep.mbl)
    · cases e
  · cases e
theorem ix_G (G : GTabOk X.K X.w x T) : IxR X (P2 X.K (idxG x T)) := by
  intro ev es0 pins s σ H a b v u Q I rx ry h hsub
  obtain ⟨bx, W, ds, t, r, e, k⟩ := h
  obtain ⟨d1, d2, rfl, h1, h2⟩ := r.two
  unfold idxG at e
  split at e
  · rename_i y z q
    cases q
    split at e
    · rename_i hy
      subst hy
      obtain ⟨p, e1, rfl⟩ := Option.map_eq_some_iff.mp e
      obtain ⟨es, n, kd, hk⟩ := G.ex
      obtain ⟨ta, o, its, m, e2, e3, e4, e5, e6, e7⟩ := entB_ok (List.all_eq_true.mp G.ents _ (lookup_mem e1))
      refine ix_kdict ev es0 pins s σ H a b v u Q I rx ry ⟨He.ga X.K y, z, .ref ta, h1.glo, h2.str, ⟨es, n, .ref ta, kd.at_, kd.lit, e2, rfl⟩, ?_⟩ hsub
      refine k _ H Grow.refl (ResN.old (Rep.mtup (.inr ⟨o, its, m, e3, e4, e5, by rw [e6]; decide +kernel, e7⟩) (.cons Rep.mint (.cons ?_ .nil))))
      unfold Rep; rfl
    · cases e
  · cases e
theorem se_ixG {a b : Expr} {ma mb : M DB} {pos : Pos} (G : GTabOk X.K X.w x T) (ha : SE X a ma) (hb : SE X b mb) (hs : PlainIx b := by exact fun _ _ => rfl) : SE X (.Subscript a b pos) (bin (idxG x T) ma mb) := PE.weak (pe_ix (ix_G G) ha.d hb.d hs) fun _ _ _ h => rd2 h
end

def callN (tab : VTab) (mf : M DB) (mr : M (List D)) : M DB := do
  let g ← mf
  let ds ← mr
  let fn ← lift (pickV tab g.1)
  runF fn ds
structure NEnt (X : Cx) (k0 : Nat) (x : Str) (fn : Fn) : Prop where
  ex : ∃ k n, k ≤ k0 ∧ DefC X.prog X.w X.K X.mg X.base x k n fn [] ∧ X.mg x = some (.ref (He.ga X.K x))
theorem nent {X : Cx} {k0 k n : Nat} {x : Str} {fn : Fn} (G : DefC X.prog X.w X.K X.mg X.base x k n fn []) (hx : X.mg x = some (.ref (He.ga X.K x))) (hk : k ≤ k0 := by decide) : NEnt X k0 x fn := ⟨_, _, hk, G, hx⟩
section
variable {X : Cx} {tab : VTab} {k0 : Nat} {mf : M DB} {mr : M (List D)} {e : Expr} {es : List Expr} {p pos : Pos} {x : Str}
theorem rdN {σ : St} {H : Hp} {Q : VK} (hT : ∀ p ∈ tab, NEnt X k0 p.1 p.2) (h : rdT X.K (callN tab mf mr) σ H Q) :
    rdD X.K (do let t ← mf; Pure.pure t.1) σ H fun u H1 => ∃ y fn k n, u = .ref (He.ga X.K y) ∧ k ≤ k0 ∧ DefC X.prog X.w X.K X.mg X.base y k n fn [] ∧ X.mg y = some (.ref (He.ga X.K y)) ∧ rdA X.K mr σ H1 fun vs H2 => spF X.K n fn vs H2 Q E0 := by
  obtain ⟨F, T, bx, s, r, t, s', e, k⟩ := h
  obtain ⟨g, s1, e1, e⟩ := bind_ok e
  obtain ⟨ds, s2, e2, e⟩ := bind_ok e
  obtain ⟨fn, s3, e3, ez⟩ := bind_ok e
  obtain ⟨e4, rfl⟩ := lift_ok e3
  obtain ⟨y, hg, hm⟩ := pickV_some e4
  obtain ⟨kk, n, hk, G, hx⟩ := (hT _ hm).ex
  refine ⟨F, T, bx, s, r, g.1, s1, by rw [bind_run, e1]; rfl, fun u bx1 H1 x1 q1 => ⟨y, fn, kk, n, ?_, hk, G, hx, ?_⟩⟩
  · rw [hg] at q1; exact q1.glo
  · have z : rdT X.K (callF fn [] mr) σ H1 Q := ⟨F, T, bx1, s1, x1.rel, t, s', by unfold callF; rw [bind_run, e2]; show runF fn (ds ++ []) s3 = _; rw [List.append_nil]; exact ez, fun v bx' H' x2 q2 => k v bx' H' (x1.trans x2) q2⟩
    have z2 := rdF (dvs := []) (fun _ _ _ => .nil) G.ar z
    simp only [List.append_nil] at z2
    exact z2
theorem se_callN (hT : ∀ p ∈ tab, NEnt X k0 p.1 p.2) (hgd : X.A.guards = some []) (hr : Room k0 X.A) (hf : SE X (.Name x p) mf) (ha : SA X (e :: es) mr)
    (he : starEach (e :: es) X.env = (false, eval e X.env) :: starEach es X.env := by rfl) (hpl : (backTo pos (starEach es X.env)).any (·.1) = false := by rfl) : SE X (.Call (.Name x p) (e :: es) [] pos) (callN tab mf mr) := by
  constructor
  intro pins s σ H Q I h
  apply wpAny_Call_Name_kw
  refine thn (hf.d.run pins s σ H _ I (rdN hT h)) fun u s1 ⟨uv, H1, I1, ru, y, fn, k, n, hu, hk, G, hx, q1⟩ => ?_
  subst hu
  cases (show u = Value.ref _ from ru)
  obtain ⟨f, fd, ps, ds, dvs, F, hm, hkp, hb, hd, hdd⟩ := G.ex
  have ef := hx.symm.trans hm
  obtain rfl : He.ga X.K y = f := by injection ef with e1; injection e1
  have hz : dvs = [] := (hdd [] (fun _ => False) (fun _ => none)).unnil
  subst hz
  refine PySem.W.callWith_K (first := []) I1.ok.mod.kin hkp ?_ he hpl
  refine thn (ha.run pos pins s1 σ H1 _ I1 q1) ?_
  rintro us t ⟨vs, H2, J, r, q⟩
  cases hd
  refine ⟨J.kIn, called F hgd (hr.mono hk) J (us := us) ?_ r q⟩
  have := hb t us J.kIn (by rw [List.append_nil, ← r.length]; exact F.arity q)
  simpa using this
end

def upperD : D → Option DB
  | .str a => if a.length ≤ 5592405 then some (.str (Txt.upper a), false) else none
  | _ => none
def upM (m : M DB) : M DB := do
  let t ← m
  lift (upperD t.1)
theorem se_upper {X : Cx} {o : Expr} {mo : M DB} {apos pos : Pos} (ho : SE X o mo) (hbase : attributeBase o "upper" X.env (eval o X.env) = eval o X.env := by rfl) (hline : (apos.endLine == pos.line) = true := by rfl) :
    SE X (.Call (.Attribute o "upper" apos) [] [] pos) (upM mo) :=
  PE.weak (pe_upper ho.d hbase hline) fun σ H Q h => by
    obtain ⟨F, T, bx, s, r, t, s', e, k⟩ := h
    obtain ⟨d, s1, e1, e⟩ := bind_ok e
    obtain ⟨e2, rfl⟩ := lift_ok e
    refine ⟨F, T, bx, s, r, d.1, s', by rw [bind_run, e1]; rfl, fun v bx1 H1 x1 q1 => ?_⟩
    obtain ⟨dd, fr⟩ := d
    cases dd with
    | str a =>
      change (if _ then _ else _) = some t at e2
      split at e2
      · rename_i c
        cases e2
        refine ⟨⟨a, q1.str⟩, a, q1.str, rfl, c, ?_⟩
        obtain ⟨y, z⟩ := ResN.res x1.rel Grow.refl (ResN.old (K := X.K) (bx := bx1) (W := Wf F s' σ T) (Rep.mstr (i := Txt.upper a)))
        exact k _ bx1 H1 (x1.trans y) z
      · cases e2
    | _ => cases e2

theorem dicW_es {K : PySem.W.Frag} {w : World} {a : Addr} {ks : List Str} (h : He.dicW K a = some (He.keysIn w.params ks)) : ∃ es n, KDict K w a es n ∧ es.toList.map He.keyOf = He.keysIn w.params ks := by
  obtain ⟨es, n, kd⟩ := He.dicW_ok (w := w) h
  refine ⟨es, n, kd, ?_⟩
  unfold He.dicW at h
  rw [kd.at_] at h
  have h1 : (match decide (("dict" : String) = "dict") && ((#[] : Array (Option Value)).isEmpty && !(a == sysModules)) with
    | true => some (es.toList.map He.keyOf)
    | false => none) = some (He.keysIn w.params ks) := h
  rw [kd.low] at h1
  exact Option.some.inj h1
abbrev AlG : Type := AlT × Option (List (Option (Str × Int)))
def obsGG (n : Nat) (fx : PySem.W.Frag → Bool) (fa : List He.Fa) (fn : List He.DefD) (tx : Str) (g : Addr → Option Obj) : AlG := (obsTG n fx fa fn g, He.dicW (He.frT g (He.asD g n)) (He.ga (He.frT g (He.asD g n)) tx))
def valG (fn : List He.DefD) (ks : List Str) (w : World) : AlG := (valT fn, some (He.keysIn w.params ks))
structure SaysG (fx : PySem.W.Frag → Bool) (fa : List He.Fa) (fn : List He.DefD) (tx : Str) (ks : List Str) (w : World) (K : PySem.W.Frag) (h : Heap) : Prop where
  d : He.SaysD fa fn K
  x : fx K = true
  tab : TabF K h
  gt : ∃ es n, KDict K w (He.ga K tx) es n ∧ es.toList.map He.keyOf = He.keysIn w.params ks
theorem saysG_of {n : Nat} {fx : PySem.W.Frag → Bool} {fa : List He.Fa} {fn : List He.DefD} {tx : Str} {ks : List Str} {w : World} {h : Heap} (e : obsGG n fx fa fn tx h.get? = valG fn ks w) : SaysG fx fa fn tx ks w (He.frT h.get? (He.asD h.get? n)) h := by
  have e1 : obsTG n fx fa fn h.get? = valT fn := congrArg (fun z : AlG => z.1) e
  have e2 : He.dicW (He.frT h.get? (He.asD h.get? n)) (He.ga (He.frT h.get? (He.asD h.get? n)) tx) = some (He.keysIn w.params ks) := congrArg (fun z : AlG => z.2) e
  obtain ⟨a, b, c⟩ := saysT_of e1
  exact ⟨a, b, c, dicW_es e2⟩
def hookG (n : Nat) (fx : PySem.W.Frag → Bool) (fa : List He.Fa) (fn : List He.DefD) (tx : Str) (ks : List Str) : PySem.W.Hook where
  α := AlG
  obs := fun s => obsGG n fx fa fn tx s.heap.get?
  val := fun w => valG fn ks w
  says := fun w h => ∃ K : PySem.W.Frag, K.In h ∧ SaysG fx fa fn tx ks w K h
  of := fun _ _ e => ⟨_, He.frT_in, saysG_of e⟩
  keeps := fun _ _ _ ⟨K, hK, c⟩ k => ⟨K, PySem.W.Frag.In.keeps hK k, ⟨c.d, c.x, c.tab.keeps k, c.gt⟩⟩
theorem obsGG_eq {n : Nat} {fx : PySem.W.Frag → Bool} {fa : List He.Fa} {fn : List He.DefD} {tx : Str} {ks : List Str} {g : Addr → Option Obj} {s : Shared} (h : ∀ a, g a = s.heap.get? a) : obsGG n fx fa fn tx g = (hookG n fx fa fn tx ks).obs s := by
  have e : g = s.heap.get? := funext h
  rw [e] <;> rfl
end L2.Pd
set_option maxHeartbeats 4000000
namespace L2.Pd
open PySem PySem.Spec PyProof.Rows
def revS (x : Str) : Str := ⟨((Builtin.Str.strSliceIndices none none (-1) x.length).filterMap (x.cps[·]?)).toArray⟩
theorem revS_len (x : Str) : (revS x).length ≤ x.length := by
  show (List.filterMap _ _).toArray.size ≤ _
  rw [List.size_toArray]
  exact Nat.le_trans (List.length_filterMap_le _ _) (PySem.sliceIndicesBy_le none none (-1) (by decide) x.length)
section
variable {X : Cx} {e se : Expr} {te : TE} {lo hi : Option Expr} {tl th ts : TO} {p3 pos : Pos}
theorem pe_sst (he : PE X e te) (hl : PO X lo tl) (hh : PO X hi th) (hst : PO X (some se) ts) : PE X (.Subscript e (.Slice lo hi (some se) p3) pos)
    (fun σ H Q => te σ H fun x H1 => tl σ H1 fun l H2 => th σ H2 fun u H3 => ts σ H3 fun c H4 =>
      (∃ a xs k, x = .ref a ∧ SqT X.K H4 a xs ∧ c = some k ∧ k ≠ 0 ∧ k ≠ 1 ∧ (stP xs l u k).length ≤ sizeLine ∧ ∀ q, H4 q = none → Q (.ref q) (upd H4 q (.tup (stP xs l u k)))) ∨
      (∃ a xs, x = .ref a ∧ SqL X.K H4 a xs ∧ l = none ∧ u = none ∧ c = some (-1) ∧ ∀ q, H4 q = none → Q (.ref q) (upd H4 q (.lst xs.reverse))) ∨
      ∃ z, x = .str z ∧ z.length ≤ sizeLine ∧ l = none ∧ u = none ∧ c = some (-1) ∧ Q (.str (revS z)) H4) := by
  refine ⟨fun pins s σ H Q I h => Subscript_ (thn (he.run pins s σ H _ I h) fun v s1 ⟨x, H1, I1, r1, q1⟩ => ?_)⟩
  refine wpAny_Slice (thn (hl.run pins s1 σ H1 _ I1 q1) fun vl s2 ⟨l, H2, I2, pl, q2⟩ => thn (hh.run pins s2 σ H2 _ I2 q2) fun vu s3 ⟨u, H3, I3, pu, q3⟩ => thn (hst.run pins s3 σ H3 _ I3 q3) fun vs s4 ⟨c, H4, I4, ps, q4⟩ => ?_)
  have I5 : Inv X pins σ H4 { s4 with heap := s4.heap.push { cls := .type "slice", data := .fields #[vl, vu, vs] } } := I4.kept (t' := s4.toks) fun b ob q => Heap.get?_push_of_some _ q
  rcases q4 with ⟨a, xs, k, rfl, hx, rfl, k0, k1, hz, q⟩ | ⟨a, xs, rfl, hx, rfl, rfl, rfl, q⟩ | ⟨z, rfl, hz, rfl, rfl, rfl, q⟩
  · cases r1
    obtain ⟨its, r, ht, hz'⟩ := I5.tuple hx
    have rP := Vals.stP r l u k
    refine tail_any (ops := [.ref a, .ref s4.heap.objs.size]) ht.typeIs PyProof.Rows.slot_tuple_getitem.lookup ?_ (by with_unfolding_all rfl)
    refine getTup_st ht (Heap.IsSliceOf.new _ vl vu vs) pl pu ps k0 k1 ?_ (by rw [← L2.Vals.length rP]; exact hz)
    refine ⟨.ref _, _, I5.laid (t' := s4.toks) (o := .tup (stP xs l u k)) (fun b ob q => Heap.get?_push_of_some _ q) (Nat.le_refl _) ?_, rfl, q _ (I5.hok.fresh (Nat.le_refl _))⟩
    exact ⟨hz, _, rP, IsTup.new _ _⟩
  · cases r1
    obtain ⟨its, r, ht, hz⟩ := I5.list hx
    have hlen := L2.Vals.length r
    refine tail_any (ops := [.ref a, .ref s4.heap.objs.size]) ht.isList.typeIs PySem.slot_list_getitem.lookup ?_ (by with_unfolding_all rfl)
    refine wpAny_getItem_list_slice ht.isList (Heap.IsSliceOf.new _ vl vu vs) pl pu ps (by decide) ?_ (by rw [List.size_toArray]; omega)
    rw [PySem.W.krv_pick]
    refine ⟨.ref _, _, I5.laid (t' := s4.toks) (o := .lst xs.reverse) (fun b ob q => Heap.get?_push_of_some _ q) (Nat.le_refl _) ?_, rfl, q _ (I5.hok.fresh (Nat.le_refl _))⟩
    exact ⟨by rw [List.length_reverse]; exact hz, _, 0, r.reverse, Heap.get?_push_size _ rfl⟩
  · obtain ⟨t, rfl⟩ := r1
    obtain ⟨l, rfl, el⟩ := IsPart.raw pl
    obtain ⟨u, rfl, eu⟩ := IsPart.raw pu
    obtain ⟨c, rfl, ec⟩ := IsPart.raw ps
    obtain rfl : l = none := by simpa using el
    obtain rfl : u = none := by simpa using eu
    obtain ⟨uk, rfl⟩ : ∃ uk, c = some (-1, uk) := by
      cases c with
      | none => simp at ec
      | some p => obtain ⟨a, b⟩ := p; simp at ec; subst ec; exact ⟨b, rfl⟩
    have hsl := Heap.IsSliceOf.new s4.heap (partValue none) (partValue none) (partValue (some (-1, uk)))
    obtain ⟨os, hos, hcs, hds⟩ := hsl
    refine tail_any (ops := [.ref s4.heap.objs.size, .str z t]) (typeIs_str _ _ _) F.slot_str_getitem.lookup ?_ (by with_unfolding_all rfl)
    refine wpAny_getItem_str_slice (l := none) (u := none) (st := some (-1, uk)) ⟨os, hos, hcs, hds⟩ rfl ?_
    have hle : (revS z).length ≤ sizeLine := Nat.le_trans (revS_len z) hz
    show Made.post (.str (revS z)) _ _
    exact ⟨hle, .str _, H4, I5.tok _, ⟨_, rfl⟩, q⟩
end
def stSD (d : D) (lo hi c : Option Int) : Option DB := match d, lo, hi, c with
  | .str z, none, none, some (-1) => if z.length ≤ sizeLine then some (.str (revS z), false) else none
  | d, lo, hi, c => stD d lo hi c
theorem stSD_cases {d : D} {l u c : Option Int} {t : DB} (e5 : stSD d l u c = some t) : (∃ ds kk, d = .tup ds ∧ c = some kk ∧ (kk ≠ 0 ∧ kk ≠ 1 ∧ (stP ds l u kk).length ≤ sizeLine) ∧ t = (.tup (stP ds l u kk), false)) ∨ (∃ ds, d = .lst ds ∧ l = none ∧ u = none ∧ c = some (-1) ∧ t = (.lst ds.reverse, true)) ∨ ∃ z, d = .str z ∧ z.length ≤ sizeLine ∧ l = none ∧ u = none ∧ c = some (-1) ∧ t = (.str (revS z), false) := by
  unfold stSD at e5
  split at e5
  · split at e5
    · rename_i cc
      cases e5
      exact .inr (.inr ⟨_, rfl, cc, rfl, rfl, rfl, rfl⟩)
    · cases e5
  · rcases stD_cases e5 with h | h
    · exact .inl h
    · exact .inr (.inl h)
def stSM (m : M DB) (lo hi c : M (Option Int)) : M DB := do
  let t ← m
  let l ← lo
  let u ← hi
  let k ← c
  lift (stSD t.1 l u k)
section
variable {X : Cx} {a se : Expr} {ma : M DB} {lo hi : Option Expr} {ml mh mc : M (Option Int)} {pos p2 : Pos}
theorem se_sst (ha : SE X a ma) (hl : SO X lo ml) (hh : SO X hi mh) (hc : SO X (some se) mc) : SE X (.Subscript a (.Slice lo hi (some se) p2) pos) (stSM ma ml mh mc) :=
  PE.weak (pe_sst ha.d hl hh hc) fun σ H Q h => by
    obtain ⟨F, T, bx, s, r, t, s', e, k⟩ := h
    obtain ⟨d, s1, e1, e⟩ := bind_ok e
    obtain ⟨l, s2, e2, e⟩ := bind_ok e
    obtain ⟨u, s3, e3, e⟩ := bind_ok e
    obtain ⟨c, s4, e4, e⟩ := bind_ok e
    obtain ⟨e5, rfl⟩ := lift_ok e
    refine ⟨F, T, bx, s, r, d.1, s1, by rw [bind_run, e1]; rfl, fun v bx1 H1 x1 q1 => ⟨F, T, bx1, s1, x1.rel, l, s2, e2, fun bx2 H2 x2 => ⟨F, T, bx2, s2, x2.rel, u, s3, e3, fun bx3 H3 x3 => ⟨F, T, bx3, s3, x3.rel, c, s', e4, fun bx4 H4 x4 => ?_⟩⟩⟩⟩
    have q4 := x4.tr _ _ (x3.tr _ _ (x2.tr _ _ q1))
    have xx := ((x1.trans x2).trans x3).trans x4
    have fin : ∀ w H5, Grow H4 H5 → ResN X.K bx4 (Wf F s' σ T) H4 H5 t w → Q w H5 := fun w H5 g q => by
      obtain ⟨y, z⟩ := ResN.res x4.rel g q
      exact k w bx4 H5 (xx.trans y) z
    rcases stSD_cases e5 with ⟨ds, kk, hd, rfl, cc, rfl⟩ | ⟨ds, hd, rfl, rfl, rfl, rfl⟩ | ⟨z, hd, hz, rfl, rfl, rfl, rfl⟩
    · rw [hd] at q4
      obtain ⟨p, vs, rfl, h1, h2⟩ := q4.tup
      have hP := RepL.stP h2 l u kk
      exact .inl ⟨p, vs, kk, rfl, h1, rfl, cc.1, cc.2.1, by rw [← hP.length]; exact cc.2.2, fun q hq => fin _ _ (Grow.new hq) (ResN.newT hq hP)⟩
    · rw [hd] at q4
      obtain ⟨p, vs, rfl, h1, h2⟩ := q4.lst
      exact .inr (.inl ⟨p, vs, rfl, h1, rfl, rfl, rfl, fun q hq => fin _ _ (Grow.new hq) (ResN.newL hq h2.reverse)⟩)
    · rw [hd] at q4
      exact .inr (.inr ⟨z, q4.str, hz, rfl, rfl, rfl, fin _ _ Grow.refl (ResN.old Rep.mstr)⟩)
end
end L2.Pd
set_option maxHeartbeats 4000000
namespace L2.Pd
open PySem PySem.Spec PyProof.Rows
def repLM (a b : M DB) : M DB := do
  let x ← a
  let y ← b
  match x, y.1 with
  | (.lst ds, true), .int k => lift (if 0 ≤ k ∧ k ≤ 1000 ∧ ds.length ≤ 1000 then some (.lst (List.replicate k.toNat ds).flatten, true) else none)
  | _, _ => lift none
theorem se_repL {X : Cx} {a b : Expr} {ma mb : M DB} {pos : Pos} (ha : SE X a ma) (hb : SE X b mb) : SE X (.BinOp a .Mult b pos) (repLM ma mb) := PE.weak (pe_op op_rep ha hb.d) fun σ H Q h => by
  obtain ⟨F, T, bx, s, r, t, s', e, k⟩ := h
  obtain ⟨x, s1, e1, ef⟩ := bind_ok e
  obtain ⟨y, s2, e2, eg⟩ := bind_ok ef
  refine ⟨F, T, bx, s, r, x, s1, e1, fun v bx1 H1 x1 q1 => ⟨F, tmpOf x v T, bx1, s1, x1.rel, y.1, s2, by rw [bind_run, e2]; rfl, fun w bx2 H2 x2 q2 => ?_⟩⟩
  obtain ⟨dx, fx⟩ := x
  obtain ⟨dy, fy⟩ := y
  cases dx with
  | lst ds =>
    cases fx with
    | false => exact absurd eg (by intro z; cases z)
    | true =>
      cases dy with
      | int n =>
        have eg : lift (if 0 ≤ n ∧ n ≤ 1000 ∧ ds.length ≤ 1000 then some (D.lst (List.replicate n.toNat ds).flatten, true) else none) s2 = .ok t s' := eg
        obtain ⟨e3, rfl⟩ := lift_ok eg
        split at e3
        · rename_i c
          cases e3
          obtain ⟨l, xs, ds', o, hl, rfl, hH, hr, hno, hT⟩ := q1
          rcases hl with ⟨hd, rfl⟩ | ⟨ks, hd, _⟩
          · cases hd
            have hlen := hr.length
            have hin : l ∈ tmpOf (.lst ds, true) (.ref l) T := List.mem_cons_self
            have hk := x2.kt l hin _ hH
            refine ⟨l, n, xs, rfl, q2.int, hk, by have := c.1; omega, by have := c.2.1; omega, ?_, fun p hp => ?_⟩
            · have h1 : xs.length ≤ 1000 := by rw [← hlen]; exact c.2.2
              have h2 : n.toNat ≤ 1000 := by have := c.2.1; omega
              have := Nat.mul_le_mul h1 h2
              rw [sizeLine_eq]
              omega
            · have x12 := (x1.trans x2).drop
              have hr2 := x2.trL _ _ hr
              have hr3 : RepL X.K bx2 (Wf F s' σ T) H2 ds xs := hr2.less fun b z => by
                rcases z with z | z | z
                · exact .inl z
                · exact .inr (.inl z)
                · exact .inr (.inr (List.mem_cons_of_mem _ z))
              obtain ⟨x3, q3⟩ := ResN.res x12.rel (Grow.new hp) (ResN.newL hp (hr3.rep n.toNat))
              exact k _ _ _ (x12.trans x3) q3
          · cases hd
        · cases e3
      | _ => exact absurd eg (by intro z; cases z)
  | _ => exact absurd eg (by intro z; cases z)
end L2.Pd
set_option maxHeartbeats 4000000
namespace L2.Pd
open PySem PySem.Spec PyProof.Rows
def ifeB (c a b : M Bool) : M Bool := do
  let x ← c
  if x then a else b
section
variable {X : Cx} {a b c : Expr} {na nb nc : M Bool} {pos : Pos}
theorem pt_ife {tA ta tb : TT} (hc : PT X c tA) (ha : PT X a ta) (hb : PT X b tb) : PT X (.IfExp c a b pos) (fun σ H Q => tA σ H fun x H1 => if x = true then ta σ H1 Q else tb σ H1 Q) := by
  refine ⟨fun pins s σ H Q I h => ?_⟩
  refine isTrue_IfExp (thn (hc.run pins s σ H _ I h) fun d s1 ⟨H1, I1, q1⟩ => ?_)
  cases d with
  | true => exact ha.run pins s1 σ H1 Q I1 q1
  | false => exact hb.run pins s1 σ H1 Q I1 q1
theorem sb_ife (hc : SB X c nc) (ha : SB X a na) (hb : SB X b nb) : SB X (.IfExp c a b pos) (ifeB nc na nb) := PT.weak (pt_ife hc ha hb) fun σ H Q h => by
  obtain ⟨F, T, bx, s, r, t, s', e, k⟩ := h
  obtain ⟨x, s1, e1, e⟩ := bind_ok e
  refine ⟨F, T, bx, s, r, x, s1, e1, fun bx1 H1 x1 => ?_⟩
  cases x with
  | true => rw [if_pos rfl]; exact ⟨F, T, bx1, s1, x1.rel, t, s', e, fun bx2 H2 x2 => k bx2 H2 (x1.trans x2)⟩
  | false => rw [if_neg (by decide)]; exact ⟨F, T, bx1, s1, x1.rel, t, s', e, fun bx2 H2 x2 => k bx2 H2 (x1.trans x2)⟩
end

def zipP : List D → List D → List D
  | d :: ds, e :: es => .tup [d, e] :: zipP ds es
  | _, _ => []
theorem zipP_len : ∀ (ds es : List D), (zipP ds es).length = min ds.length es.length
  | [], es => by simp [zipP]
  | d :: ds, [] => by simp [zipP]
  | d :: ds, e :: es => by
    simp only [zipP, List.length_cons, zipP_len ds es]
    omega
theorem zipP_get : ∀ (ds es : List D) (i : Nat) (p : D), (zipP ds es)[i]? = some p → ∃ d e, ds[i]? = some d ∧ es[i]? = some e ∧ p = .tup [d, e]
  | [], es, i, p, h => by simp [zipP] at h
  | d :: ds, [], i, p, h => by simp [zipP] at h
  | d :: ds, e :: es, 0, p, h => by
    simp [zipP] at h
    exact ⟨d, e, rfl, rfl, h.symm⟩
  | d :: ds, e :: es, i + 1, p, h => by
    obtain ⟨x, y, h1, h2, h3⟩ := zipP_get ds es i p (by simpa [zipP] using h)
    exact ⟨x, y, by simpa using h1, by simpa using h2, h3⟩
def zipI (m : M (List D)) : M (List D) := do
  let ds ← m
  lift (match ds with
    | [.lst a, .lst b] => some (zipP a b)
    | [.tup a, .tup b] => some (zipP a b)
    | _ => none)
theorem yields_two {K : PySem.W.Frag} {F : Fm} {bx : Bxs} {W : Wd} {H : Hp} {ds es : List D} {J : It} (h : ∀ bx' W' H', (∀ d v, Rep K bx W H d v → Rep K bx' W' H' d v) → ∃ xs ys, RepL K bx' W' H' ds xs ∧ RepL K bx' W' H' es ys ∧
    (∀ i x y, xs[i]? = some x → ys[i]? = some y → J.go i H') ∧ (∀ i z H'', J.yld i H' z H'' → ∃ T x y, z = .ref T ∧ H' T = none ∧ H'' = upd H' T (.tup [x, y]) ∧ xs[i]? = some x ∧ ys[i]? = some y) ∧ J.stop (min xs.length ys.length) H') : Yields K F J bx W H (zipP ds es) := by
  intro bx' W' H' tr _
  obtain ⟨xs, ys, r1, r2, h1, h2, h3⟩ := h bx' W' H' tr
  refine ⟨fun i hi => ?_, by rw [zipP_len, r1.length, r2.length]; exact h3⟩
  rw [zipP_len] at hi
  obtain ⟨v, e, q⟩ := r1.get (List.getElem?_eq_getElem (show i < ds.length by omega))
  obtain ⟨v', e', q'⟩ := r2.get (List.getElem?_eq_getElem (show i < es.length by omega))
  refine ⟨h1 i v v' e e', fun z H'' hz => ?_⟩
  obtain ⟨T, x, y, rfl, hT, rfl, hx, hy⟩ := h2 i z H'' hz
  refine ⟨Grow.new hT, fun d hd => ?_⟩
  obtain ⟨d1, d2, g1, g2, rfl⟩ := zipP_get ds es i d hd
  rw [List.getElem?_eq_getElem (show i < ds.length by omega)] at g1
  rw [List.getElem?_eq_getElem (show i < es.length by omega)] at g2
  cases g1
  cases g2
  rw [e] at hx
  rw [e'] at hy
  cases hx
  cases hy
  exact Rep.mtup (.of upd_same) (.cons (q.grow (Grow.new hT) fun _ z => .inl z) (.cons (q'.grow (Grow.new hT) fun _ z => .inl z) .nil))
section
variable {X : Cx} {a b : Expr} {mr : M (List D)} {p pos tpos : Pos}
theorem si_zip {elts : List Expr} {kk : Nat} (hg : Gl X "zip") (hm : X.mg "zip" = none) (ha : SA X [a, b] mr)
    (hs : starEach [a, b] X.env = (false, eval a X.env) :: starEach [b] X.env := by rfl) (hpl : (backTo pos (starEach [b] X.env)).any (·.1) = false := by rfl) :
    SI X (.Tuple elts kk tpos) (.Call (.Name "zip" p) [a, b] [] pos) (zipI mr) := PI.weak (RZ.pi_zipA hg hm ha hs hpl) fun σ H R h => by
  obtain ⟨F, T, bx, s, r, ds, s', e, k⟩ := h
  obtain ⟨xs, s1, e1, e⟩ := bind_ok e
  obtain ⟨e2, rfl⟩ := lift_ok e
  refine ⟨F, T, bx, s, r, xs, s', e1, fun vs bx1 H1 x1 q1 => ?_⟩
  split at e2
  · rename_i d1 d2
    cases e2
    obtain ⟨v, vs', rfl, q2, q3⟩ := q1.uncons
    obtain ⟨d, hd, q4⟩ := (show ∃ d, [D.lst d2] = [d] ∧ ∃ y, vs' = [y] ∧ Rep X.K bx1 (Wf F s' σ T) H1 d y from by
      obtain ⟨y, ys, rfl, z1, z2⟩ := q3.uncons
      rw [z2.unnil]
      exact ⟨_, rfl, y, rfl, z1⟩)
    cases hd
    obtain ⟨y, rfl, q5⟩ := q4
    obtain ⟨l1, xs1, rfl, g1, g2⟩ := q2.lst
    obtain ⟨l2, xs2, rfl, g3, g4⟩ := q5.lst
    refine ⟨l1, l2, xs1, xs2, rfl, .inl ⟨g1, g3, k _ bx1 H1 x1 (yields_two fun bx' W' H' tr => ?_)⟩⟩
    obtain ⟨b1, us1, e1', i1, i2⟩ := (tr _ _ q2).lst
    cases e1'
    obtain ⟨b2, us2, e2', i3, i4⟩ := (tr _ _ q5).lst
    cases e2'
    exact ⟨us1, us2, i2, i4, fun i x y hx hy => ⟨us1, us2, x, y, i1, i3, hx, hy⟩, fun i z H'' ⟨T', x, y, w1, w2, w3, w4, w5⟩ => ⟨T', x, y, w1, w2, w3, w4 us1 i1, w5 us2 i3⟩, us1, us2, i1, i3, by omega⟩
  · rename_i d1 d2
    cases e2
    obtain ⟨v, vs', rfl, q2, q3⟩ := q1.uncons
    obtain ⟨d, hd, q4⟩ := (show ∃ d, [D.tup d2] = [d] ∧ ∃ y, vs' = [y] ∧ Rep X.K bx1 (Wf F s' σ T) H1 d y from by
      obtain ⟨y, ys, rfl, z1, z2⟩ := q3.uncons
      rw [z2.unnil]
      exact ⟨_, rfl, y, rfl, z1⟩)
    cases hd
    obtain ⟨y, rfl, q5⟩ := q4
    obtain ⟨l1, xs1, rfl, g1, g2⟩ := q2.tup
    obtain ⟨l2, xs2, rfl, g3, g4⟩ := q5.tup
    refine ⟨l1, l2, xs1, xs2, rfl, .inr ⟨g1, g3, k _ bx1 H1 x1 (yields_two fun bx' W' H' tr => ?_)⟩⟩
    obtain ⟨b1, us1, e1', i1, i2⟩ := (tr _ _ q2).tup
    cases e1'
    obtain ⟨b2, us2, e2', i3, i4⟩ := (tr _ _ q5).tup
    cases e2'
    exact ⟨us1, us2, i2, i4, fun i x y hx hy => ⟨us1, us2, x, y, i1, i3, hx, hy⟩, fun i z H'' ⟨T', x, y, w1, w2, w3, w4, w5⟩ => ⟨T', x, y, w1, w2, w3, w4 us1 i1, w5 us2 i3⟩, us1, us2, i1, i3, by omega⟩
  · cases e2
end

def lnkB (f : List D → Option DB) (x : D) (mb : M DB) (k : D → M Bool) : M Bool := do
  let y ← mb
  let t ← lift (f [x, y.1])
  match t.1 with
  | .bl true => k y.1
  | .bl false => Pure.pure false
  | _ => lift none
def lstB (f : List D → Option DB) (x : D) (mb : M DB) : M Bool := do
  let y ← mb
  let t ← lift (f [x, y.1])
  match t.1 with
  | .bl b => Pure.pure b
  | _ => lift none
def chn3B (f g h : List D → Option DB) (ma mb mc md : M DB) : M Bool := do
  let x ← ma
  lnkB f x.1 mb fun y => lnkB g y mc fun z => lstB h z md
def tChain3 (r r' r'' : R2) (ta tb tc td : TE) : TT := fun σ H Q => ta σ H fun x H1 => tb σ H1 fun y H2 => r x y H2 fun z H3 => ∃ k, z = .bl k ∧
  (if k = true then tc σ H3 fun w H4 => r' y w H4 fun z2 H5 => ∃ k2, z2 = .bl k2 ∧ (if k2 = true then td σ H5 fun u H6 => r'' w u H6 fun z3 H7 => ∃ k3, z3 = .bl k3 ∧ Q k3 H7 else Q false H5) else Q false H3)
theorem pt_chain3 {X : Cx} {a b c d : Expr} {ta tb tc td : TE} {pos : Pos} {op op' op'' : CmpOp} {r r' r'' : R2} (ho : OpR X (compareOp op) r) (ho' : OpR X (compareOp op') r') (ho'' : OpR X (compareOp op'') r'') (ha : PE X a ta) (hb : PE X b tb) (hc : PE X c tc) (hd : PE X d td)
    (hm : lastMarks [op, op', op''] [b, c, d] = false := by with_unfolding_all rfl) : PT X (.Compare a [op, op', op''] [b, c, d] pos) (tChain3 r r' r'' ta tb tc td) := by
  refine ⟨fun pins s σ H Q I h => ?_⟩
  refine isTrue_chain (thn (ha.run pins s σ H _ I h) fun v s1 ⟨x, H1, I1, r1, q1⟩ => test_link (thn (hb.run pins s1 σ H1 _ I1 q1) fun u s2 ⟨y, H2, I2, r2, q2⟩ =>
    thn (ho pins s2 σ H2 x y v u _ I2 r1 r2 q2) fun d s3 ⟨z, H3, I3, r3, k, e, q3⟩ => ?_)) hm
  subst e
  cases r3
  refine wpAny_truthy_bool ?_
  cases k with
  | false => exact ite_ff ⟨H3, I3, q3⟩
  | true =>
    refine ite_tt (test_link (thn (hc.run pins s3 σ H3 _ I3 q3) fun w' s4 ⟨z', H4, I4, r4, q4⟩ => thn (ho' pins s4 σ H4 y z' u w' _ I4 r2 r4 q4) fun d' s5 ⟨z2, H5, I5, r5, k2, e2, q5⟩ => ?_))
    subst e2
    cases r5
    refine wpAny_truthy_bool ?_
    cases k2 with
    | false => exact ite_ff ⟨H5, I5, q5⟩
    | true =>
      refine ite_tt (test_last (thn (hd.run pins s5 σ H5 _ I5 q5) fun w6 s6 ⟨z6, H6, I6, r6, q6⟩ => thn (ho'' pins s6 σ H6 z' z6 w' w6 _ I6 r4 r6 q6) fun d7 s7 ⟨z7, H7, I7, r7, k7, e7, q7⟩ => ?_))
      subst e7
      cases r7
      exact wpAny_truthy_bool ⟨H7, I7, q7⟩
section
variable {X : Cx} {a b c d : Expr} {ma mb mc md : M DB} {pos : Pos} {f g h : List D → Option DB}
theorem rdLnk {K : PySem.W.Frag} {F : Fm} {T : List Addr} {bx : Bxs} {s s' : S} {σ : St} {H : Hp} {x : D} {xv : V} {k : D → M Bool} {r : Bool} {Q : Bool → Hp → Prop} (R : Rel K F bx T s σ H) (hx : Rep K bx (Wf F s σ T) H x xv) (e : lnkB f x mb k s = .ok r s')
    (fin : ∀ bx' H', Stp K F T bx s σ H bx' T s' σ H' → Q r H')
    {cont : V → Hp → Prop} (hc : ∀ y yv bx1 s1 H1, Stp K F T bx s σ H bx1 T s1 σ H1 → Rep K bx1 (Wf F s1 σ T) H1 y yv → k y s1 = .ok r s' → cont yv H1) :
    rdD K (do let t ← mb; Pure.pure t.1) σ H fun yv H2 => P2 K f xv yv H2 fun z H3 => ∃ b, z = .bl b ∧ (if b = true then cont yv H3 else Q false H3) := by
  obtain ⟨y, s1, e1, e⟩ := bind_ok e
  obtain ⟨t, s2, e2', ef⟩ := bind_ok e
  obtain ⟨e2, hs⟩ := lift_ok e2'
  subst hs
  refine ⟨F, T, bx, s, R, y.1, s2, by rw [bind_run, e1]; rfl, fun yv bx1 H1 x1 q1 => ?_⟩
  refine Pu.of x1.rel (.cons (x1.tr _ _ hx) (.cons q1 .nil)) e2 fun w H3 x3 q3 => ?_
  have q3' := q3.rep x3
  have x3' := x3.drop
  obtain ⟨dz, fz⟩ := t
  cases dz with
  | bl kb =>
    cases kb with
    | true =>
      refine ⟨true, q3'.bl, ?_⟩
      rw [if_pos rfl]
      exact hc y.1 yv bx1 s2 H3 (x1.trans x3') (x3'.tr _ _ q1) ef
    | false =>
      refine ⟨false, q3'.bl, ?_⟩
      rw [if_neg (by decide)]
      cases ef
      exact fin bx1 H3 (x1.trans x3')
  | _ => cases ef
theorem rdLst {K : PySem.W.Frag} {F : Fm} {T : List Addr} {bx : Bxs} {s s' : S} {σ : St} {H : Hp} {x : D} {xv : V} {r : Bool} {Q : Bool → Hp → Prop} (R : Rel K F bx T s σ H) (hx : Rep K bx (Wf F s σ T) H x xv) (e : lstB f x mb s = .ok r s')
    (fin : ∀ bx' H', Stp K F T bx s σ H bx' T s' σ H' → Q r H') :
    rdD K (do let t ← mb; Pure.pure t.1) σ H fun yv H2 => P2 K f xv yv H2 fun z H3 => ∃ b, z = .bl b ∧ Q b H3 := by
  obtain ⟨y, s1, e1, e⟩ := bind_ok e
  obtain ⟨t, s2, e2', ef⟩ := bind_ok e
  obtain ⟨e2, hs⟩ := lift_ok e2'
  subst hs
  refine ⟨F, T, bx, s, R, y.1, s2, by rw [bind_run, e1]; rfl, fun yv bx1 H1 x1 q1 => ?_⟩
  refine Pu.of x1.rel (.cons (x1.tr _ _ hx) (.cons q1 .nil)) e2 fun w H3 x3 q3 => ?_
  have q3' := q3.rep x3
  have x3' := x3.drop
  obtain ⟨dz, fz⟩ := t
  cases dz with
  | bl kb =>
    cases ef
    exact ⟨_, q3'.bl, fin bx1 H3 (x1.trans x3')⟩
  | _ => cases ef
theorem sb_chain3 {op op' op'' : CmpOp} (ho : OpR X (compareOp op) (P2 X.K f)) (ho' : OpR X (compareOp op') (P2 X.K g)) (ho'' : OpR X (compareOp op'') (P2 X.K h)) (ha : SE X a ma) (hb : SE X b mb) (hc : SE X c mc) (hd : SE X d md)
    (hm : lastMarks [op, op', op''] [b, c, d] = false := by with_unfolding_all rfl) : SB X (.Compare a [op, op', op''] [b, c, d] pos) (chn3B f g h ma mb mc md) :=
  PT.weak (pt_chain3 ho ho' ho'' ha.d hb.d hc.d hd.d hm) fun σ H Q hh => by
    obtain ⟨F, T, bx, s, r, t, s', e, k⟩ := hh
    obtain ⟨x, s1, e1, e⟩ := bind_ok e
    refine ⟨F, T, bx, s, r, x.1, s1, by rw [bind_run, e1]; rfl, fun xv bx1 H1 x1 q1 => ?_⟩
    refine rdLnk x1.rel q1 e (fun bx' H' x2 => k bx' H' (x1.trans x2)) fun y yv bx2 s2 H2 x2 q2 e2 => ?_
    refine rdLnk x2.rel q2 e2 (fun bx' H' x3 => k bx' H' ((x1.trans x2).trans x3)) fun z zv bx3 s3 H3 x3 q3 e3 => ?_
    exact rdLst x3.rel q3 e3 fun bx' H' x4 => k bx' H' (((x1.trans x2).trans x3).trans x4)
end
def tupP (i : Nat) : M DB := do
  let d ← peek i
  lift (tupleD [d])
section
variable {X : Cx} {x : Str} {p pos : Pos}
theorem call_tupleDO : CallR X (.type "tuple") (fun vs H Q => ∃ x, vs = [x] ∧ PuO X.K (fun d => tupleD [d]) x H Q) := by
  intro pins s σ H xs us Q I r h
  obtain ⟨x, rfl, bx, W, d, t, q, e, k⟩ := h
  have e : tupleD [d] = some t := e
  unfold tupleD at e
  split at e
  · rename_i z
    cases z
    cases e
    obtain ⟨a, xs, rfl, q1, q2⟩ := q.lst
    exact call_tuple_of pins s σ H _ us Q I r ⟨_, _, rfl, .inl ⟨q1, fun p hp => k _ _ (Grow.new hp) (ResN.newT hp q2)⟩⟩
  · rename_i z
    cases z
    cases e
    have h1 := q.old (by intro _ z; cases z)
    obtain ⟨a, xs, rfl, q1, q2⟩ := h1.tup
    exact call_tuple_of pins s σ H _ us Q I r ⟨_, _, rfl, .inr ⟨q1, k _ H Grow.refl (ResN.old h1)⟩⟩
  · cases e
theorem se_tupP (i : Nat) {pc : Pos} (hg : Gl X "tuple") (hm : X.mg "tuple" = none) (hN : X.N[i]? = some x := by rfl) (hv : Vis X.env.scope x := by first | exact Or.inl rfl | exact Or.inr (Or.inl rfl) | exact Or.inr (Or.inr rfl)) (hd : (x == ("__debug__" : Str)) = false := by decide)
    (hcd : (x == ("__classdict__" : Str)) = false := by decide) (he : starEach [.Name x p] X.env = (false, eval (.Name x p) X.env) :: starEach [] X.env := by rfl) (hpl : (backTo pos (starEach [] X.env)).any (·.1) = false := by rfl) : SE X (.Call (.Name "tuple" pc) [.Name x p] [] pos) (tupP i) :=
  PE.weak (pe_callTy call_tupleDO hg hm (by rfl) (pa_cons (pe_var hN hv hd hcd) pa_nil he) (by decide) (by decide) he hpl) fun σ H Q h => by
    obtain ⟨F, T, bx, s, r, t, s', e, k⟩ := h
    obtain ⟨d, s1, e1, f1⟩ := bind_ok e
    obtain ⟨rfl, b0, h0⟩ := peek_ok e1
    obtain ⟨e4, rfl⟩ := lift_ok f1
    obtain ⟨v, hσ, hO⟩ := r.peek h0
    refine ⟨v, hσ, v, rfl, bx, _, d, t, hO, e4, fun v2 H2 g q => ?_⟩
    obtain ⟨y2, z⟩ := ResN.res r g q
    exact k v2 bx H2 y2 z
end
end L2.Pd
set_option maxHeartbeats 4000000
namespace L2.Pd
open PySem PySem.Spec PyProof.Rows
@[irreducible] def Ok {α : Type} (m : M α) (s : S) (Q : α → S → Prop) : Prop := match m s with
  | .ok a s' => Q a s'
  | _ => False
def FOk0 (fn : Fn) (ds : List D) (st : List (List Int)) (Q : DB → List (List Int) → Prop) : Prop := match fn ds st with
  | .ok t st' => Q t st'
  | _ => False
/-- a structure: nothing looks into a call by itself -/
structure FOk (fn : Fn) (ds : List D) (st : List (List Int)) (Q : DB → List (List Int) → Prop) : Prop where
  run : FOk0 fn ds st Q
theorem fok_eq {fn : Fn} {ds : List D} {st : List (List Int)} {Q : DB → List (List Int) → Prop} : FOk fn ds st Q = FOk0 fn ds st Q := propext ⟨fun h => h.run, fun h => ⟨h⟩⟩
theorem FOk.out {fn : Fn} {ds : List D} {st : List (List Int)} {Q : DB → List (List Int) → Prop} (h : FOk fn ds st Q) : ∃ t st', fn ds st = .ok t st' ∧ Q t st' := by
  rw [fok_eq] at h
  unfold FOk0 at h
  split at h
  · exact ⟨_, _, by assumption, h⟩
  · exact h.elim
theorem FOk.mono {fn : Fn} {ds : List D} {st : List (List Int)} {Q R : DB → List (List Int) → Prop} (h : FOk fn ds st Q) (w : ∀ t st', Q t st' → R t st') : FOk fn ds st R := by
  rw [fok_eq] at h ⊢
  unfold FOk0 at h ⊢
  split at h
  · exact w _ _ h
  · exact h.elim
section
variable {α β : Type} {s : S} {m a b : M DB} {i : Nat} {st : List (List Int)}
theorem Ok.mono {m : M α} {Q R : α → S → Prop} (h : Ok m s Q) (w : ∀ a s', Q a s' → R a s') : Ok m s R := by
  unfold Ok at h ⊢
  split at h
  · exact w _ _ h
  · exact h.elim
@[simp] theorem ok_pure {a : α} {Q : α → S → Prop} : Ok (pure a) s Q = Q a s := by unfold Ok; rfl
theorem ok_bind {m : M α} {f : α → M β} {Q : β → S → Prop} : Ok (m >>= f) s Q = Ok m s fun x s1 => Ok (f x) s1 Q := by
  unfold Ok
  rw [bind_run]
  cases m s <;> (first | rfl | (unfold Ok; rfl))
@[simp] theorem ok_lift_some {a : α} {Q : α → S → Prop} : Ok (lift (some a)) s Q = Q a s := by unfold Ok; rfl
@[simp] theorem ok_lift_none {Q : α → S → Prop} : Ok (lift (none : Option α)) s Q = False := by unfold Ok; rfl
@[simp] theorem ok_lift_ite {c : Prop} [Decidable c] {a : α} {Q : α → S → Prop} : Ok (lift (if c then some a else none)) s Q = (c ∧ Q a s) := by
  by_cases h : c <;> simp [h]
@[simp] theorem ok_never {Q : α → S → Prop} : Ok (never : M α) s Q = False := by unfold Ok; rfl
@[simp] theorem ok_cst {d : D} {Q : DB → S → Prop} : Ok (cst d) s Q = Q (d, false) s := by unfold Ok; rfl
def VarQ (s : S) (i : Nat) (Q : DB → S → Prop) : Option (Option DB) → Prop
  | some (some (d, false)) => Q (d, false) s
  | some (some (d, true)) => Q (d, false) { s with env := s.env.set i (some (d, false)) }
  | _ => False
@[simp] theorem ok_var {Q : DB → S → Prop} : Ok (var i) s Q = VarQ s i Q s.env[i]? := by
  unfold Ok var VarQ
  cases q : s.env[i]? with
  | none => first | rfl | (unfold Ok; rfl)
  | some o =>
    cases o with
    | none => first | rfl | (unfold Ok; rfl)
    | some t =>
      obtain ⟨d, b⟩ := t
      cases b <;> (first | rfl | (unfold Ok; rfl))
@[simp] theorem varQ_f {d : D} {Q : DB → S → Prop} : VarQ s i Q (some (some (d, false))) = Q (d, false) s := rfl
@[simp] theorem varQ_t {d : D} {Q : DB → S → Prop} : VarQ s i Q (some (some (d, true))) = Q (d, false) { s with env := s.env.set i (some (d, false)) } := rfl
def PeekQ (Q : D → Prop) : Option (Option DB) → Prop
  | some (some (d, _)) => Q d
  | _ => False
@[simp] theorem ok_peek {Q : D → S → Prop} : Ok (peek i) s Q = PeekQ (fun d => Q d s) s.env[i]? := by
  unfold Ok peek PeekQ
  split <;> rename_i h <;> split at h <;> simp_all
@[simp] theorem peekQ_s {d : D} {b : Bool} {Q : D → Prop} : PeekQ Q (some (some (d, b))) = Q d := rfl
@[simp] theorem ok_bin {f : List D → Option DB} {Q : DB → S → Prop} : Ok (bin f a b) s Q = Ok a s fun x s1 => Ok b s1 fun y s2 => Ok (lift (f [x.1, y.1])) s2 Q := by
  unfold bin; rw [ok_bind]; simp only [ok_bind]
@[simp] theorem ok_un {f : List D → Option DB} {Q : DB → S → Prop} : Ok (un f a) s Q = Ok a s fun x s1 => Ok (lift (f [x.1])) s1 Q := by
  unfold un; rw [ok_bind]
@[simp] theorem ok_isN {Q : DB → S → Prop} : Ok (isN a) s Q = Ok a s fun x s1 => Q (.bl (isNonD x.1), false) s1 := by
  unfold isN; rw [ok_bind]; (first | rfl | (unfold Ok; rfl))
@[simp] theorem ok_notN {Q : DB → S → Prop} : Ok (notN a) s Q = Ok a s fun x s1 => Q (.bl (!isNonD x.1), false) s1 := by
  unfold notN; rw [ok_bind]; (first | rfl | (unfold Ok; rfl))
@[simp] theorem ok_tru {Q : Bool → S → Prop} : Ok (tru a) s Q = Ok a s fun x s1 => Ok (lift (truD x.1)) s1 Q := by
  unfold tru; rw [ok_bind]
@[simp] theorem ok_andB {a b : M Bool} {Q : Bool → S → Prop} : Ok (andB a b) s Q = Ok a s fun x s1 => if x = true then Ok b s1 Q else Q false s1 := by
  unfold andB; rw [ok_bind]; congr; funext x s1; cases x <;> (first | rfl | (unfold Ok; rfl))
@[simp] theorem ok_orB {a b : M Bool} {Q : Bool → S → Prop} : Ok (orB a b) s Q = Ok a s fun x s1 => if x = true then Q true s1 else Ok b s1 Q := by
  unfold orB; rw [ok_bind]; congr; funext x s1; cases x <;> (first | rfl | (unfold Ok; rfl))
@[simp] theorem ok_notB {a : M Bool} {Q : Bool → S → Prop} : Ok (notB a) s Q = Ok a s fun x s1 => Q (!x) s1 := by
  unfold notB; rw [ok_bind]; (first | rfl | (unfold Ok; rfl))
@[simp] theorem ok_andV {Q : DB → S → Prop} : Ok (andV a b) s Q = Ok a s fun x s1 => Ok (lift (truD x.1)) s1 fun k s2 => if k = true then Ok b s2 Q else Q (x.1, false) s2 := by
  unfold andV; rw [ok_bind]; congr; funext x s1; rw [ok_bind]; congr; funext k s2; cases k <;> (first | rfl | (unfold Ok; rfl))
@[simp] theorem ok_orV {Q : DB → S → Prop} : Ok (orV a b) s Q = Ok a s fun x s1 => Ok (lift (truD x.1)) s1 fun k s2 => if k = true then Q (x.1, false) s2 else Ok b s2 Q := by
  unfold orV; rw [ok_bind]; congr; funext x s1; rw [ok_bind]; congr; funext k s2; cases k <;> (first | rfl | (unfold Ok; rfl))
@[simp] theorem ok_notV {Q : DB → S → Prop} : Ok (notV a) s Q = Ok a s fun x s1 => Ok (lift (truD x.1)) s1 fun k s2 => Q (.bl (!k), false) s2 := by
  unfold notV; rw [ok_bind]; congr; funext x s1; rw [ok_bind]; (first | rfl | (unfold Ok; rfl))
@[simp] theorem ok_ife {c : M Bool} {Q : DB → S → Prop} : Ok (ife c a b) s Q = Ok c s fun x s1 => if x = true then Ok a s1 Q else Ok b s1 Q := by
  unfold ife; rw [ok_bind]; congr; funext x s1; cases x <;> (first | rfl | (unfold Ok; rfl))
@[simp] theorem ok_nilA {Q : List D → S → Prop} : Ok nilA s Q = Q [] s := by unfold Ok; rfl
@[simp] theorem ok_consA {r : M (List D)} {Q : List D → S → Prop} : Ok (consA a r) s Q = Ok a s fun x s1 => Ok r s1 fun xs s2 => Q (x.1 :: xs) s2 := by
  unfold consA; rw [ok_bind]; congr; funext x s1; rw [ok_bind]; (first | rfl | (unfold Ok; rfl))
@[simp] theorem ok_tupM {r : M (List D)} {Q : DB → S → Prop} : Ok (tupM r) s Q = Ok r s fun xs s1 => xs.length ≤ sizeLine ∧ Q (.tup xs, false) s1 := by
  unfold tupM; rw [ok_bind]; simp only [ok_lift_ite]
@[simp] theorem ok_lstM {r : M (List D)} {Q : DB → S → Prop} : Ok (lstM r) s Q = Ok r s fun xs s1 => xs.length ≤ sizeLine ∧ Q (.lst xs, true) s1 := by
  unfold lstM; rw [ok_bind]; simp only [ok_lift_ite]
@[simp] theorem ok_callP {f : List D → Option DB} {r : M (List D)} {Q : DB → S → Prop} : Ok (callP f r) s Q = Ok r s fun xs s1 => Ok (lift (f xs)) s1 Q := by
  unfold callP; rw [ok_bind]
def chainK (g : List D → Option DB) (c : M DB) (y : D) : D → M DB
  | .bl true => do
    let z ← c
    lift (g [y, z.1])
  | .bl false => pure (.bl false, false)
  | _ => lift none
@[simp] theorem ok_chain {f g : List D → Option DB} {c : M DB} {Q : DB → S → Prop} : Ok (chain f g a b c) s Q = Ok a s fun x s1 => Ok b s1 fun y s2 => Ok (lift (f [x.1, y.1])) s2 fun t s3 => Ok (chainK g c y.1 t.1) s3 Q := by
  unfold chain; rw [ok_bind]; congr; funext x s1; rw [ok_bind]; congr; funext y s2; rw [ok_bind]; congr
@[simp] theorem ok_chainK {g : List D → Option DB} {c : M DB} {k : Bool} {y : D} {Q : DB → S → Prop} : Ok (chainK g c y (.bl k)) s Q = if k = true then Ok c s fun z s1 => Ok (lift (g [y, z.1])) s1 Q else Q (.bl false, false) s := by
  cases k
  · first | rfl | (unfold Ok; rfl)
  · show Ok (c >>= _) s Q = _
    rw [ok_bind]
    simp only [if_true]
@[simp] theorem ok_seqM {a b : M Fl} {Q : Fl → S → Prop} : Ok (seqM a b) s Q = Ok a s fun f s1 => match f with
    | .nx => Ok b s1 Q
    | f => Q f s1 := by
  unfold seqM; rw [ok_bind]; congr; funext f s1; cases f <;> (first | rfl | (unfold Ok; rfl))
@[simp] theorem ok_ret {Q : Fl → S → Prop} : Ok (ret m) s Q = Ok m s fun t s1 => Q (.rt t) s1 := by
  unfold ret; rw [ok_bind]; (first | rfl | (unfold Ok; rfl))
def RetQ (s : S) (i : Nat) (Q : Fl → S → Prop) : Option (Option DB) → Prop
  | some (some (d, false)) => Q (.rt (d, false)) s
  | some (some (d, true)) => Q (.rt (d, true)) { s with env := s.env.set i none }
  | _ => False
@[simp] theorem ok_retV {Q : Fl → S → Prop} : Ok (retV i) s Q = RetQ s i Q s.env[i]? := by
  unfold Ok retV RetQ
  split <;> rename_i h <;> split at h <;> simp_all
@[simp] theorem retQ_f {d : D} {Q : Fl → S → Prop} : RetQ s i Q (some (some (d, false))) = Q (.rt (d, false)) s := rfl
@[simp] theorem retQ_t {d : D} {Q : Fl → S → Prop} : RetQ s i Q (some (some (d, true))) = Q (.rt (d, true)) { s with env := s.env.set i none } := rfl
@[simp] theorem ok_drp {Q : Fl → S → Prop} : Ok (drp m) s Q = Ok m s fun _ s1 => Q .nx s1 := by
  unfold drp; rw [ok_bind]; (first | rfl | (unfold Ok; rfl))
@[simp] theorem ok_ifM {c : M Bool} {a b : M Fl} {Q : Fl → S → Prop} : Ok (ifM c a b) s Q = Ok c s fun x s1 => if x = true then Ok a s1 Q else Ok b s1 Q := by
  unfold ifM; rw [ok_bind]; congr; funext x s1; cases x <;> (first | rfl | (unfold Ok; rfl))
@[simp] theorem ok_putv {t : DB} {Q : Fl → S → Prop} : Ok (putv i t) s Q = (i < s.env.length ∧ Q .nx { s with env := s.env.set i (some t) }) := by
  unfold Ok putv
  by_cases h : i < s.env.length <;> simp [h]
@[simp] theorem ok_setv {Q : Fl → S → Prop} : Ok (setv i m) s Q = Ok m s fun t s1 => i < s1.env.length ∧ Q .nx { s1 with env := s1.env.set i (some t) } := by
  unfold setv; rw [ok_bind]; simp only [ok_putv]
@[simp] theorem ok_par2 {j : Nat} {Q : Fl → S → Prop} : Ok (par2 i j a b) s Q = Ok a s fun x s1 => Ok b s1 fun y s2 => j < s2.env.length ∧ i < (s2.env.set j (some y)).length ∧ Q .nx { s2 with env := (s2.env.set j (some y)).set i (some x) } := by
  unfold par2; rw [ok_bind]; congr; funext x s1; rw [ok_bind]; congr; funext y s2; rw [ok_bind]; simp only [ok_putv]
@[simp] theorem ok_gnm {d : D} {Q : Unit → S → Prop} : Ok (gnm i d) s Q = (i < s.env.length ∧ Q () { s with env := s.env.set i (some (d, false)) }) := by
  unfold Ok gnm
  by_cases h : i < s.env.length <;> simp [h]
@[simp] theorem ok_gnil {Q : Unit → S → Prop} : Ok (gnil []) s Q = Q () s := by unfold Ok; rfl
@[simp] theorem ok_gcons {g : D → M Unit} {gs : List D → M Unit} {d : D} {ds : List D} {Q : Unit → S → Prop} : Ok (gcons g gs (d :: ds)) s Q = Ok (g d) s fun _ s1 => Ok (gs ds) s1 Q := by
  show Ok (g d >>= fun _ => gs ds) s Q = _
  rw [ok_bind]
@[simp] theorem ok_gtp {n : Nat} {gs : List D → M Unit} {ds : List D} {Q : Unit → S → Prop} : Ok (gtp n gs (.tup ds)) s Q = (ds.length = n ∧ Ok (gs ds) s Q) := by
  show Ok (if ds.length = n then gs ds else lift none) s Q = _
  by_cases h : ds.length = n <;> simp [h]
@[simp] theorem ok_asg {g : D → M Unit} {Q : Fl → S → Prop} : Ok (asg g m) s Q = Ok m s fun t s1 => Ok (g t.1) s1 fun _ s2 => Q .nx s2 := by
  unfold asg; rw [ok_bind]; congr; funext x s1; rw [ok_bind]; (first | rfl | (unfold Ok; rfl))
@[simp] theorem ok_callF {fn : Fn} {dd : List D} {r : M (List D)} {Q : DB → S → Prop} : Ok (callF fn dd r) s Q = Ok r s fun ds s1 => FOk fn (ds ++ dd) s1.st fun t st' => Q t { s1 with st := st' } := by
  unfold callF; rw [ok_bind]; congr; funext ds s1
  simp only [fok_eq]
  unfold Ok FOk0 runF
  cases fn (ds ++ dd) s1.st <;> (first | rfl | (unfold Ok; rfl))
@[simp] theorem ok_callK {fn : Fn} {n1 n2 : Nat} {dd : List D} {sl : List Sel} {ma mk : M (List D)} {Q : DB → S → Prop} : Ok (callK fn n1 n2 dd sl ma mk) s Q = Ok ma s fun ds s1 => Ok mk s1 fun es s2 => ds.length = n1 ∧ es.length = n2 ∧ FOk fn (pickS .non ds dd es sl) s2.st fun t st' => Q t { s2 with st := st' } := by
  unfold callK; rw [ok_bind]; congr; funext ds s1; rw [ok_bind]; congr; funext es s2
  by_cases h : ds.length = n1 ∧ es.length = n2
  · rw [if_pos h]
    simp only [h.1, h.2, true_and]
    simp only [fok_eq]
    unfold Ok FOk0 runF
    cases fn (pickS .non ds dd es sl) s2.st <;> (first | rfl | (unfold Ok; rfl))
  · rw [if_neg h]
    simp only [ok_lift_none, eq_iff_iff, false_iff]
    exact fun z => h ⟨z.1, z.2.1⟩
@[simp] theorem ok_ixP {Q : DB → S → Prop} : Ok (ixP i b) s Q = PeekQ (fun _ => Ok b s fun y s1 => PeekQ (fun d => Ok (lift (idxD [d, y.1])) s1 Q) s1.env[i]?) s.env[i]? := by
  unfold ixP; rw [ok_bind, ok_peek]; congr; funext _; rw [ok_bind]; congr; funext y s1; rw [ok_bind, ok_peek]
@[simp] theorem ok_lenP {Q : DB → S → Prop} : Ok (lenP i) s Q = PeekQ (fun d => Ok (lift (lenD [d])) s Q) s.env[i]? := by
  unfold lenP; rw [ok_bind, ok_peek]
@[simp] theorem ok_noPart {Q : Option Int → S → Prop} : Ok noPart s Q = Q none s := by unfold Ok; rfl
def PartQ (Q : Option Int → Prop) : D → Prop
  | .int i => Q (some i)
  | _ => False
@[simp] theorem partQ_i {Q : Option Int → Prop} {j : Int} : PartQ Q (.int j) = Q (some j) := rfl
@[simp] theorem ok_part {Q : Option Int → S → Prop} : Ok (part m) s Q = Ok m s fun t s1 => PartQ (fun o => Q o s1) t.1 := by
  unfold part; rw [ok_bind]; congr; funext ⟨d, b⟩ s1; cases d <;> (first | rfl | (unfold Ok; rfl))
@[simp] theorem ok_slP {lo hi : M (Option Int)} {Q : DB → S → Prop} : Ok (slP i lo hi) s Q = PeekQ (fun _ => Ok lo s fun l s1 => Ok hi s1 fun u s2 => PeekQ (fun d => Ok (lift (slD d l u)) s2 Q) s2.env[i]?) s.env[i]? := by
  unfold slP; rw [ok_bind, ok_peek]; congr; funext _; rw [ok_bind]; congr; funext y s1; rw [ok_bind]; congr; funext y s1; rw [ok_bind, ok_peek]
@[simp] theorem ok_slM {lo hi : M (Option Int)} {Q : DB → S → Prop} : Ok (slM m lo hi) s Q = Ok m s fun t s0 => Ok lo s0 fun l s1 => Ok hi s1 fun u s2 => Ok (lift (slD t.1 l u)) s2 Q := by
  unfold slM; rw [ok_bind]; congr; funext _ _; rw [ok_bind]; congr; funext y s1; rw [ok_bind]
/-- boxes -/
def IxQ (s : S) (Q : DB → S → Prop) (j : Int) : Option (List Int) → Prop
  | some ns => match atI ns j with
    | some z => Q (.int z, false) s
    | none => False
  | none => False
def IxM (s : S) (Q : DB → S → Prop) : D → D → Prop
  | .box n, .int j => IxQ s Q j s.st[n]?
  | d, e => Ok (lift (idxD [d, e])) s Q
@[simp] theorem ok_ixM {Q : DB → S → Prop} : Ok (ixM a b) s Q = Ok a s fun x s1 => Ok b s1 fun y s2 => IxM s2 Q x.1 y.1 := by
  refine (ok_bind (m := a)).trans ?_; congr; funext x s1; refine (ok_bind (m := b)).trans ?_; congr; funext y s2
  obtain ⟨d, _⟩ := x
  obtain ⟨e, _⟩ := y
  cases d with
  | box n =>
    cases e with
    | int j =>
      unfold IxM IxQ Ok
      dsimp only
      cases s2.st[n]? with
      | none => first | rfl | (unfold Ok; rfl)
      | some ns =>
        dsimp only
        cases atI ns j <;> (first | rfl | (unfold Ok; rfl))
    | _ => first | rfl | (unfold Ok; rfl)
  | _ => first | rfl | (unfold Ok; rfl)
@[simp] theorem ixM_box {n : Nat} {j : Int} {Q : DB → S → Prop} : IxM s Q (.box n) (.int j) = IxQ s Q j s.st[n]? := rfl
@[simp] theorem ixQ_0 {x y z : Int} {Q : DB → S → Prop} : IxQ s Q 0 (some [x, y, z]) = Q (.int x, false) s := rfl
@[simp] theorem ixQ_1 {x y z : Int} {Q : DB → S → Prop} : IxQ s Q 1 (some [x, y, z]) = Q (.int y, false) s := rfl
@[simp] theorem ixQ_2 {x y z : Int} {Q : DB → S → Prop} : IxQ s Q 2 (some [x, y, z]) = Q (.int z, false) s := rfl
def SetQ (s : S) (Q : Fl → S → Prop) (n : Nat) (j z : Int) : Option (List Int) → Prop
  | some ns => match ixN ns.length j with
    | some k => Q .nx { s with st := s.st.set n (ns.set k z) }
    | none => False
  | none => False
def SetM (s : S) (Q : Fl → S → Prop) : D → D → D → Prop
  | .box n, .int j, .int z => SetQ s Q n j z s.st[n]?
  | _, _, _ => False
@[simp] theorem ok_bsetM {Q : Fl → S → Prop} : Ok (bsetM a b m) s Q = Ok m s fun t s0 => Ok a s0 fun x s1 => Ok b s1 fun y s2 => SetM s2 Q x.1 y.1 t.1 := by
  refine (ok_bind (m := m)).trans ?_; congr; funext t s0; refine (ok_bind (m := a)).trans ?_; congr; funext x s1; refine (ok_bind (m := b)).trans ?_; congr; funext y s2
  obtain ⟨d, _⟩ := x
  obtain ⟨e, _⟩ := y
  obtain ⟨f, _⟩ := t
  cases d with
  | box n =>
    cases e with
    | int j =>
      cases f with
      | int z =>
        unfold SetM SetQ Ok
        dsimp only
        cases s2.st[n]? with
        | none => first | rfl | (unfold Ok; rfl)
        | some ns =>
          dsimp only
          cases ixN ns.length j <;> (first | rfl | (unfold Ok; rfl))
      | _ => first | rfl | (unfold Ok; rfl)
    | _ => first | rfl | (unfold Ok; rfl)
  | _ => first | rfl | (unfold Ok; rfl)
@[simp] theorem setM_box {n : Nat} {j z : Int} {Q : Fl → S → Prop} : SetM s Q (.box n) (.int j) (.int z) = SetQ s Q n j z s.st[n]? := rfl
@[simp] theorem setQ_0 {n : Nat} {w x y z : Int} {Q : Fl → S → Prop} : SetQ s Q n 0 w (some [x, y, z]) = Q .nx { s with st := s.st.set n [w, y, z] } := rfl
@[simp] theorem setQ_1 {n : Nat} {w x y z : Int} {Q : Fl → S → Prop} : SetQ s Q n 1 w (some [x, y, z]) = Q .nx { s with st := s.st.set n [x, w, z] } := rfl
@[simp] theorem setQ_2 {n : Nat} {w x y z : Int} {Q : Fl → S → Prop} : SetQ s Q n 2 w (some [x, y, z]) = Q .nx { s with st := s.st.set n [x, y, w] } := rfl
def BoxQ (s : S) (Q : DB → S → Prop) : List D → Prop
  | [.int x, .int y, .int z] => Q (.box s.st.length, false) { s with st := s.st ++ [[x, y, z]] }
  | _ => False
@[simp] theorem boxQ_3 {x y z : Int} {Q : DB → S → Prop} : BoxQ s Q [.int x, .int y, .int z] = Q (.box s.st.length, false) { s with st := s.st ++ [[x, y, z]] } := rfl
@[simp] theorem ok_boxM {r : M (List D)} {Q : DB → S → Prop} : Ok (boxM r) s Q = Ok r s fun ds s1 => BoxQ s1 Q ds := by
  refine (ok_bind (m := r)).trans ?_; congr; funext ds s1
  unfold Ok BoxQ
  rcases ds with _ | ⟨d1, _ | ⟨d2, _ | ⟨d3, _ | ⟨d4, r⟩⟩⟩⟩ <;> (try (first | rfl | (unfold Ok; rfl)))
  · cases d1 <;> (first | rfl | (unfold Ok; rfl))
  · cases d1 <;> (try (first | rfl | (unfold Ok; rfl))) <;> cases d2 <;> (first | rfl | (unfold Ok; rfl))
  · cases d1 <;> (try (first | rfl | (unfold Ok; rfl))) <;> cases d2 <;> (try (first | rfl | (unfold Ok; rfl))) <;> cases d3 <;> (first | rfl | (unfold Ok; rfl))
  · cases d1 <;> (try (first | rfl | (unfold Ok; rfl))) <;> cases d2 <;> (try (first | rfl | (unfold Ok; rfl))) <;> cases d3 <;> (first | rfl | (unfold Ok; rfl))
end
end L2.Pd
set_option maxHeartbeats 4000000
namespace L2.Pd
open PySem PySem.Spec PyProof.Rows
@[simp] theorem sizeLine_eq : sizeLine = 16777216 := by decide +kernel
section
variable {s : S} {i j : Int} {Q : DB → S → Prop} {xs ys : List D}
@[simp] theorem addD_int : addD [.int i, .int j] = some (.int (i + j), false) := rfl
@[simp] theorem addD_lst : addD [.lst xs, .lst ys] = if xs.length + ys.length ≤ sizeLine then some (.lst (xs ++ ys), true) else none := rfl
@[simp] theorem subD_int : subD [.int i, .int j] = some (.int (i - j), false) := rfl
@[simp] theorem ok_mul : Ok (lift (mulD [.int i, .int j])) s Q = (okMul i j ∧ Q (.int (i * j), false) s) := by
  unfold mulD; simp only [ok_lift_ite]
@[simp] theorem ok_div : Ok (lift (divD [.int i, .int j])) s Q = (okDiv j ∧ Q (.int (i / j), false) s) := by
  unfold divD; simp only [ok_lift_ite]
@[simp] theorem ok_mod : Ok (lift (modD [.int i, .int j])) s Q = (0 < j ∧ Q (.int (i % j), false) s) := by
  unfold modD; simp only [ok_lift_ite]
@[simp] theorem ok_pow : Ok (lift (powD [.int i, .int j])) s Q = (okPow i j ∧ Q (.int (i ^ j.toNat), false) s) := by
  unfold powD; simp only [ok_lift_ite]
@[simp] theorem ltD_int : ltD [.int i, .int j] = some (.bl (decide (i < j)), false) := rfl
@[simp] theorem leD_int : leD [.int i, .int j] = some (.bl (decide (i ≤ j)), false) := rfl
@[simp] theorem gtD_int : gtD [.int i, .int j] = some (.bl (decide (j < i)), false) := rfl
@[simp] theorem geD_int : geD [.int i, .int j] = some (.bl (decide (j ≤ i)), false) := rfl
@[simp] theorem negD_int : negD [.int i] = some (.int (-i), false) := rfl
@[simp] theorem absD_int : absD [.int i] = some (.int (if i < 0 then -i else i), false) := rfl
@[simp] theorem max2D_int : max2D [.int i, .int j] = some (.int (if j > i then j else i), false) := rfl
@[simp] theorem min2D_int : min2D [.int i, .int j] = some (.int (if j < i then j else i), false) := rfl
@[simp] theorem eqD_int : eqD [.int i, .int j] = some (.bl (decide (i = j)), false) := by
  unfold eqD
  simp only [D.py]
  rw [if_pos (by rfl)]
  rfl
@[simp] theorem neD_int : neD [.int i, .int j] = some (.bl (!decide (i = j)), false) := by
  unfold neD
  simp only [D.py]
  rw [if_pos (by rfl)]
  rfl
@[simp] theorem truD_bl {b : Bool} : truD (.bl b) = some b := rfl
@[simp] theorem truD_int : truD (.int i) = some (i != 0) := rfl
@[simp] theorem truD_non : truD .non = some false := rfl
@[simp] theorem truD_lst : truD (.lst xs) = some (!xs.isEmpty) := rfl
@[simp] theorem truD_tup : truD (.tup xs) = some (!xs.isEmpty) := rfl
@[simp] theorem lenD_lst : lenD [.lst xs] = some (.int (xs.length : Int), false) := rfl
@[simp] theorem lenD_tup : lenD [.tup xs] = some (.int (xs.length : Int), false) := rfl
@[simp] theorem tupleD_lst : tupleD [.lst xs] = some (.tup xs, false) := rfl
@[simp] theorem tupleD_tup : tupleD [.tup xs] = some (.tup xs, false) := rfl
@[simp] theorem listD_lst : listD [.lst xs] = some (.lst xs, true) := rfl
@[simp] theorem listD_tup : listD [.tup xs] = some (.lst xs, true) := rfl
@[simp] theorem isNonD_non : isNonD .non = true := rfl
@[simp] theorem isNonD_int : isNonD (.int i) = false := rfl
@[simp] theorem isNonD_tup : isNonD (.tup xs) = false := rfl
@[simp] theorem isNonD_lst : isNonD (.lst xs) = false := rfl
@[simp] theorem isNonD_bl {b : Bool} : isNonD (.bl b) = false := rfl
@[simp] theorem isD_bl {a b : Bool} : isD [.bl a, .bl b] = some (.bl (decide (a = b)), false) := rfl
@[simp] theorem isntD_bl {a b : Bool} : isntD [.bl a, .bl b] = some (.bl (!decide (a = b)), false) := rfl
@[simp] theorem isi_ii : isiD [.int i, .ty "int"] = some (.bl true, false) := rfl
@[simp] theorem isi_ib : isiD [.int i, .ty "bool"] = some (.bl false, false) := rfl
@[simp] theorem isi_it : isiD [.int i, .ty "tuple"] = some (.bl false, false) := rfl
@[simp] theorem isi_il : isiD [.int i, .ty "list"] = some (.bl false, false) := rfl
@[simp] theorem isi_tt : isiD [.tup xs, .ty "tuple"] = some (.bl true, false) := rfl
@[simp] theorem isi_tl : isiD [.tup xs, .ty "list"] = some (.bl false, false) := rfl
@[simp] theorem isi_ti : isiD [.tup xs, .ty "int"] = some (.bl false, false) := rfl
@[simp] theorem isi_ll : isiD [.lst xs, .ty "list"] = some (.bl true, false) := rfl
@[simp] theorem isi_lt : isiD [.lst xs, .ty "tuple"] = some (.bl false, false) := rfl
theorem atI_nn {α : Type} {xs : List α} {i : Int} (h0 : 0 ≤ i) (h1 : i < xs.length) : atI xs i = xs[i.toNat]? := by
  unfold L2.atI ixN
  rw [if_pos h0, if_pos h1]; (first | rfl | (unfold Ok; rfl))
theorem atI_get {α : Type} {xs : List α} {i : Int} (h0 : 0 ≤ i) (h1 : i < xs.length) : ∃ x, atI xs i = some x ∧ x ∈ xs := by
  rw [atI_nn h0 h1]
  have h : i.toNat < xs.length := by omega
  exact ⟨_, List.getElem?_eq_getElem h, List.getElem_mem h⟩
@[simp] theorem atI_0 {α : Type} {x : α} {r : List α} : atI (x :: r) 0 = some x := by
  rw [atI_nn (Int.le_refl _) (by simp)]; (first | rfl | (unfold Ok; rfl))
@[simp] theorem atI_1 {α : Type} {x y : α} {r : List α} : atI (x :: y :: r) 1 = some y := by
  rw [atI_nn (by decide) (by simp; omega)]; (first | rfl | (unfold Ok; rfl))
@[simp] theorem ok_idxL : Ok (lift (idxD [.lst xs, .int i])) s Q = ∃ d, atI xs i = some d ∧ Q (d, false) s := by
  show Ok (lift ((atI xs i).map fun d => (d, false))) s Q = _
  cases h : atI xs i with
  | none => simp
  | some d => simp
@[simp] theorem ok_idxT : Ok (lift (idxD [.tup xs, .int i])) s Q = ∃ d, atI xs i = some d ∧ Q (d, false) s := by
  show Ok (lift ((atI xs i).map fun d => (d, false))) s Q = _
  cases h : atI xs i with
  | none => simp
  | some d => simp
@[simp] theorem slD_lst {lo hi : Option Int} : slD (.lst xs) lo hi = some (.lst (cutD xs lo hi), true) := rfl
@[simp] theorem slD_tup {lo hi : Option Int} : slD (.tup xs) lo hi = some (.tup (cutD xs lo hi), false) := rfl
theorem cut_take {k : Int} (h : 0 ≤ k) : cutD xs none (some k) = xs.take k.toNat := by
  unfold cutD HT.sIx
  dsimp only
  rw [if_neg (by omega)]
  simp only [List.drop_zero, Nat.sub_zero]
  rw [List.take_eq_take_iff]; omega
theorem cut_drop {k : Int} (h : 0 ≤ k) : cutD xs (some k) none = xs.drop k.toNat := by
  unfold cutD HT.sIx
  dsimp only
  rw [if_neg (by omega)]
  by_cases c : k.toNat ≤ xs.length
  · rw [Nat.min_eq_left c, List.take_of_length_le (by simp)]
  · rw [Nat.min_eq_right (by omega), List.drop_of_length_le (Nat.le_refl _), List.drop_of_length_le (by omega), List.take_nil]
end
section
variable {s : S} {i : Nat} {Q : Fl → S → Prop} {g : D → M Unit} {b : M Fl} {c : M Bool}
def FlQ (I : S → Prop) (Q : Fl → S → Prop) (s : S) : Fl → Prop
  | .nx => I s
  | .ct => I s
  | .bk => Q .nx s
  | .rt t => Q (.rt t) s
@[simp] theorem flQ_nx {I : S → Prop} : FlQ I Q s .nx = I s := rfl
@[simp] theorem flQ_ct {I : S → Prop} : FlQ I Q s .ct = I s := rfl
@[simp] theorem flQ_bk {I : S → Prop} : FlQ I Q s .bk = Q .nx s := rfl
@[simp] theorem flQ_rt {I : S → Prop} {t : DB} : FlQ I Q s (.rt t) = Q (.rt t) s := rfl
@[simp] theorem ok_for {mi : M (List D)} : Ok (forM' mi g b) s Q = Ok mi s fun ds s1 => Ok (forL g b ds) s1 Q := by
  unfold forM'; rw [ok_bind]
theorem ok_forL_cons {d : D} {ds : List D} : Ok (forL g b (d :: ds)) s Q = Ok (g d) s fun _ s1 => Ok b s1 fun fl s2 => FlQ (fun s3 => Ok (forL g b ds) s3 Q) Q s2 fl := by
  show Ok (g d >>= _) s Q = _
  rw [ok_bind]; congr; funext _ s1; rw [ok_bind]; congr; funext fl s2; cases fl <;> (first | rfl | (unfold Ok; rfl))
theorem ok_forL (I : Nat → S → Prop) (ds : List D) (h0 : I 0 s) (hs : ∀ (i : Nat) (d : D) (s : S), ds[i]? = some d → I i s → Ok (g d) s fun _ s1 => Ok b s1 fun fl s2 => FlQ (I (i + 1)) Q s2 fl) (he : ∀ s, I ds.length s → Q .nx s) : Ok (forL g b ds) s Q := by
  have key : ∀ (ds : List D) (n : Nat) (s : S), (∀ (i : Nat) (d : D) (s : S), ds[i]? = some d → I (n + i) s → Ok (g d) s fun _ s1 => Ok b s1 fun fl s2 => FlQ (I (n + i + 1)) Q s2 fl) → (∀ s, I (n + ds.length) s → Q .nx s) → I n s → Ok (forL g b ds) s Q := by
    intro ds
    induction ds with
    | nil => exact fun n s _ he h => by unfold Ok; exact he s h
    | cons d ds ih =>
      intro n s hs he h
      rw [ok_forL_cons]
      refine (hs 0 d s rfl h).mono fun _ s1 h1 => h1.mono fun fl s2 h2 => ?_
      cases fl with
      | nx => exact ih (n + 1) s2 (fun i d s hd hi => by rw [show n + 1 + i = n + (i + 1) by omega] at hi ⊢; exact hs (i + 1) d s hd hi) (fun s hi => he s (by rw [List.length_cons, show n + (ds.length + 1) = n + 1 + ds.length by omega]; exact hi)) h2
      | ct => exact ih (n + 1) s2 (fun i d s hd hi => by rw [show n + 1 + i = n + (i + 1) by omega] at hi ⊢; exact hs (i + 1) d s hd hi) (fun s hi => he s (by rw [List.length_cons, show n + (ds.length + 1) = n + 1 + ds.length by omega]; exact hi)) h2
      | bk => exact h2
      | rt t => exact h2
  exact key ds 0 s (fun i d s hd hi => by rw [Nat.zero_add] at hi ⊢; exact hs i d s hd hi) (fun s hi => he s (by rw [Nat.zero_add] at hi; exact hi)) h0
theorem ok_whileM (I : Nat → S → Prop) (n : Nat) (h0 : I n s) (hs : ∀ (n : Nat) (s : S), I n s → Ok c s fun x s1 => if x = true then Ok b s1 fun fl s2 => FlQ (fun s3 => ∃ m, m < n ∧ I m s3) Q s2 fl else Q .nx s1) : Ok (whileM c b) s Q := by
  have key : ∀ (n : Nat) (s : S), I n s → ∃ fl s', whileN c b (n + 1) s = .ok fl s' ∧ Q fl s' := by
    intro n
    induction n using Nat.strongRecOn with
    | ind n ih =>
      intro s h
      have h1 := hs n s h
      unfold Ok at h1
      unfold whileN
      rw [bind_run]
      cases q : c s with
      | ok x s1 =>
        rw [q] at h1
        cases x with
        | false => exact ⟨_, _, rfl, h1⟩
        | true =>
          have h1 : Ok b s1 fun fl s2 => FlQ (fun s3 => ∃ m, m < n ∧ I m s3) Q s2 fl := by unfold Ok; exact h1
          unfold Ok at h1
          show ∃ fl s', (b >>= _) s1 = _ ∧ _
          rw [bind_run]
          cases q2 : b s1 with
          | ok fl s2 =>
            rw [q2] at h1
            cases fl with
            | nx =>
              obtain ⟨m, hm, hi⟩ := h1
              obtain ⟨fl, s', e, hq⟩ := ih m hm s2 hi
              refine ⟨fl, s', ?_, hq⟩
              have := whileN_mono e (n - (m + 1))
              rw [show m + 1 + (n - (m + 1)) = n by omega] at this
              exact this
            | ct =>
              obtain ⟨m, hm, hi⟩ := h1
              obtain ⟨fl, s', e, hq⟩ := ih m hm s2 hi
              refine ⟨fl, s', ?_, hq⟩
              have := whileN_mono e (n - (m + 1))
              rw [show m + 1 + (n - (m + 1)) = n by omega] at this
              exact this
            | bk => exact ⟨_, _, rfl, h1⟩
            | rt t => exact ⟨_, _, rfl, h1⟩
          | ex _ _ => rw [q2] at h1; exact h1.elim
          | no => rw [q2] at h1; exact h1.elim
      | ex _ _ => rw [q] at h1; exact h1.elim
      | no => rw [q] at h1; exact h1.elim
  obtain ⟨fl, s', e, hq⟩ := key n s h0
  unfold Ok
  rw [whileM_of e]
  exact hq
end
section
variable {s : S} {i : Nat} {Q : List D → S → Prop}
def RngQ (Q : List D → Prop) : List D → Prop
  | [.int j] => small62 j = true ∧ Q (rangeD 0 j.toNat)
  | _ => False
@[simp] theorem rngQ_1 {Q : List D → Prop} {j : Int} : RngQ Q [.int j] = (small62 j = true ∧ Q (rangeD 0 j.toNat)) := rfl
@[simp] theorem ok_rng1 {mr : M (List D)} : Ok (rngI1 mr) s Q = Ok mr s fun ds s1 => RngQ (fun r => Q r s1) ds := by
  unfold rngI1; rw [ok_bind]; congr; funext ds s1
  rcases ds with _ | ⟨d, _ | ⟨e, r⟩⟩
  · first | rfl | (unfold Ok; rfl)
  · cases d with
    | int j => simp only [ok_lift_ite, rngQ_1]
    | _ => first | rfl | (unfold Ok; rfl)
  · cases d <;> (first | rfl | (unfold Ok; rfl))
theorem small62_of {j : Int} (h0 : -(2 ^ 62) ≤ j) (h1 : j < 2 ^ 62) : small62 j = true := by
  unfold small62; simp only [Bool.and_eq_true, decide_eq_true_eq]; exact ⟨h0, h1⟩
theorem range_get {lo : Int} {n i : Nat} {d : D} (h : (rangeD lo n)[i]? = some d) : d = .int (lo + i) ∧ i < n := by
  unfold rangeD at h
  rw [List.getElem?_map] at h
  by_cases c : i < n
  · rw [List.getElem?_range c] at h
    cases h; exact ⟨rfl, c⟩
  · rw [List.getElem?_eq_none (by simpa using c)] at h; cases h
@[simp] theorem range_len {lo : Int} {n : Nat} : (rangeD lo n).length = n := by simp [rangeD]
@[simp] theorem seqD_lst {xs : List D} : seqD (.lst xs) = some xs := rfl
@[simp] theorem seqD_tup {xs : List D} : seqD (.tup xs) = some xs := rfl
@[simp] theorem ok_seqI {m : M DB} : Ok (seqI m) s Q = Ok m s fun t s1 => Ok (lift (seqD t.1)) s1 Q := by
  unfold seqI; rw [ok_bind]
def EnQ (Q : List D → Prop) : List D → Prop
  | [d] => match seqD d with
    | some xs => Q (numD 0 xs)
    | none => False
  | _ => False
@[simp] theorem enQ_lst {Q : List D → Prop} {xs : List D} : EnQ Q [.lst xs] = Q (numD 0 xs) := rfl
@[simp] theorem enQ_tup {Q : List D → Prop} {xs : List D} : EnQ Q [.tup xs] = Q (numD 0 xs) := rfl
@[simp] theorem ok_enum {mr : M (List D)} : Ok (enumI mr) s Q = Ok mr s fun ds s1 => EnQ (fun r => Q r s1) ds := by
  unfold enumI; rw [ok_bind]; congr; funext ds s1
  rcases ds with _ | ⟨d, _ | ⟨e, r⟩⟩
  · first | rfl | (unfold Ok; rfl)
  · unfold EnQ
    dsimp only
    cases seqD d <;> (first | rfl | (unfold Ok; rfl))
  · first | rfl | (unfold Ok; rfl)
end
section
variable {s : S} {i : Nat} {Q : DB → S → Prop} {g : D → M Unit} {tt : M Bool} {te m : M DB} {vs : List Nat}
def LrQ (Q : DB → Prop) : D → Prop
  | .int j => rgOk 0 j = true ∧ Q (.lst (rangeD 0 j.toNat), true)
  | _ => False
@[simp] theorem lrQ_i {Q : DB → Prop} {j : Int} : LrQ Q (.int j) = (rgOk 0 j = true ∧ Q (.lst (rangeD 0 j.toNat), true)) := rfl
@[simp] theorem ok_lrg1 : Ok (lrg1 m) s Q = Ok m s fun t s1 => LrQ (fun r => Q r s1) t.1 := by
  unfold lrg1; rw [ok_bind]; congr; funext ⟨d, b⟩ s1
  cases d with
  | int j => simp only [ok_lift_ite, lrQ_i, Int.sub_zero]
  | _ => first | rfl | (unfold Ok; rfl)
@[simp] theorem ok_noT {Q : Bool → S → Prop} : Ok noT s Q = Q true s := by unfold Ok; rfl
@[simp] theorem ok_wipeM {Q : Unit → S → Prop} : Ok (wipeM vs) s Q = Q () { s with env := wipeE s.env vs } := by unfold Ok; rfl
@[simp] theorem ok_lcM {mi : M (List D)} : Ok (lcM mi g tt te vs) s Q = Ok mi s fun ds s1 => freeE s1.env vs = true ∧ Ok (lcL g tt te vs ds) s1 fun r s2 => r.length ≤ sizeLine ∧ Q (.lst r, true) { s2 with env := restE s1.env s2.env vs } := by
  refine (ok_bind (m := mi)).trans ?_
  congr; funext ds s1
  by_cases h : freeE s1.env vs = true
  · unfold Ok
    simp only [h, if_true, true_and]
    cases lcL g tt te vs ds s1 with
    | ok r s2 =>
      dsimp only
      by_cases h2 : r.length ≤ sizeLine
      · simp only [h2, if_true, true_and]
      · simp only [h2, if_false, false_and]
    | _ => first | rfl | (unfold Ok; rfl)
  · unfold Ok
    simp [h]
theorem ok_lcL_cons {Q : List D → S → Prop} {d : D} {ds : List D} : Ok (lcL g tt te vs (d :: ds)) s Q = Ok (g d) { s with env := wipeE s.env vs } fun _ s1 => Ok tt s1 fun b s2 => if b = true then Ok te s2 fun y s3 => Ok (lcL g tt te vs ds) s3 fun r s4 => Q (y.1 :: r) s4 else Ok (lcL g tt te vs ds) s2 Q := by
  show Ok (wipeM vs >>= _) s Q = _
  rw [ok_bind, ok_wipeM, ok_bind]; congr; funext _ s1; rw [ok_bind]; congr; funext b s2
  cases b with
  | false => rfl
  | true =>
    simp only [if_true]
    rw [ok_bind]; congr; funext y s3; rw [ok_bind]; (first | rfl | (unfold Ok; rfl))
theorem ok_lcL {Q : List D → S → Prop} (I : Nat → List D → S → Prop) (ds : List D) (h0 : I 0 [] s)
    (hs : ∀ (i : Nat) (d : D) (acc : List D) (s : S), ds[i]? = some d → I i acc s → Ok (g d) { s with env := wipeE s.env vs } fun _ s1 => Ok tt s1 fun b s2 => if b = true then Ok te s2 fun y s3 => I (i + 1) (acc ++ [y.1]) s3 else I (i + 1) acc s2) (he : ∀ acc s, I ds.length acc s → Q acc s) : Ok (lcL g tt te vs ds) s Q := by
  have key : ∀ (ds : List D) (n : Nat) (acc : List D) (s : S) (Q : List D → S → Prop), (∀ (i : Nat) (d : D) (acc : List D) (s : S), ds[i]? = some d → I (n + i) acc s → Ok (g d) { s with env := wipeE s.env vs } fun _ s1 => Ok tt s1 fun b s2 => if b = true then Ok te s2 fun y s3 => I (n + i + 1) (acc ++ [y.1]) s3 else I (n + i + 1) acc s2) →
      (∀ r s, I (n + ds.length) (acc ++ r) s → Q r s) → I n acc s → Ok (lcL g tt te vs ds) s Q := by
    intro ds
    induction ds with
    | nil => exact fun n acc s Q _ he h => by unfold Ok; exact he [] s (by rw [List.append_nil]; exact h)
    | cons d ds ih =>
      intro n acc s Q hs he h
      rw [ok_lcL_cons]
      have hs' : ∀ (i : Nat) (d : D) (acc : List D) (s : S), ds[i]? = some d → I (n + 1 + i) acc s → Ok (g d) { s with env := wipeE s.env vs } fun _ s1 => Ok tt s1 fun b s2 => if b = true then Ok te s2 fun y s3 => I (n + 1 + i + 1) (acc ++ [y.1]) s3 else I (n + 1 + i + 1) acc s2 := fun i d acc s hd hi => by
        rw [show n + 1 + i = n + (i + 1) by omega] at hi ⊢; exact hs (i + 1) d acc s hd hi
      refine (hs 0 d acc s rfl h).mono fun _ s1 h1 => h1.mono fun b s2 h2 => ?_
      cases b with
      | true =>
        have h2 : Ok te s2 fun y s3 => I (n + 0 + 1) (acc ++ [y.1]) s3 := h2
        show Ok te s2 _
        refine h2.mono fun y s3 h3 => ih (n + 1) (acc ++ [y.1]) s3 _ hs' (fun r s hi => ?_) h3
        refine he _ _ ?_
        rw [List.length_cons, show n + (ds.length + 1) = n + 1 + ds.length by omega]
        rw [List.append_assoc] at hi
        exact hi
      | false =>
        exact ih (n + 1) acc s2 _ hs' (fun r s hi => he _ _ (by rw [List.length_cons, show n + (ds.length + 1) = n + 1 + ds.length by omega]; exact hi)) h2
  exact key ds 0 [] s Q (fun i d acc s hd hi => by rw [Nat.zero_add] at hi ⊢; exact hs i d acc s hd hi) (fun r s hi => he r s (by rw [Nat.zero_add, List.nil_append] at hi; exact hi)) h0
/-- an owned list -/
def IsOwn : Option (Option DB) → Prop
  | some (some (.lst _, true)) => True
  | _ => False
@[simp] theorem isOwn_t {ds : List D} : IsOwn (some (some (.lst ds, true))) = True := rfl
theorem ownAt_iff {i : Nat} : (∃ ds, ownAt s i = some ds) ↔ IsOwn s.env[i]? := by
  unfold ownAt IsOwn
  split <;> simp_all
theorem ok_onOwn {α : Type} {m : M α} {Q : α → S → Prop} {i : Nat} : Ok (onOwn i m) s Q = (IsOwn s.env[i]? ∧ Ok m s Q) := by
  rw [← ownAt_iff]
  unfold Ok onOwn
  cases ownAt s i <;> simp
def AppQ (s : S) (i : Nat) (u : D) (Q : DB → S → Prop) : Option (Option DB) → Prop
  | some (some (.lst ds, true)) => ds.length < sizeLine ∧ Q (.non, false) { s with env := s.env.set i (some (.lst (ds ++ [u]), true)) }
  | _ => False
@[simp] theorem appQ_t {u : D} {ds : List D} : AppQ s i u Q (some (some (.lst ds, true))) = (ds.length < sizeLine ∧ Q (.non, false) { s with env := s.env.set i (some (.lst (ds ++ [u]), true)) }) := rfl
@[simp] theorem ok_app : Ok (appM i m) s Q = (IsOwn s.env[i]? ∧ Ok m s fun t s1 => AppQ s1 i t.1 Q s1.env[i]?) := by
  unfold appM; rw [ok_onOwn]; congr 1
  refine (ok_bind (m := m)).trans ?_
  congr; funext t s1
  unfold Ok ownAt AppQ putO
  dsimp only
  cases s1.env[i]? with
  | none => first | rfl | (unfold Ok; rfl)
  | some o =>
    cases o with
    | none => first | rfl | (unfold Ok; rfl)
    | some x =>
      obtain ⟨d, b⟩ := x
      cases d with
      | lst ds =>
        cases b with
        | false => rfl
        | true =>
          dsimp only
          by_cases c : ds.length < sizeLine
          · rw [if_pos c]; simp only [c, true_and]
          · rw [if_neg c]; simp only [c, false_and]
      | _ => first | rfl | (unfold Ok; rfl)
def PopQ (s : S) (i : Nat) (Q : DB → S → Prop) : D → Option (Option DB) → Prop
  | .int j, some (some (.lst ds, true)) => small62 j = true ∧ ∃ k d, ixN ds.length j = some k ∧ ds[k]? = some d ∧ Q (d, false) { s with env := s.env.set i (some (.lst (ds.eraseIdx k), true)) }
  | _, _ => False
@[simp] theorem popQ_t {j : Int} {ds : List D} : PopQ s i Q (.int j) (some (some (.lst ds, true))) = (small62 j = true ∧ ∃ k d, ixN ds.length j = some k ∧ ds[k]? = some d ∧ Q (d, false) { s with env := s.env.set i (some (.lst (ds.eraseIdx k), true)) }) := rfl
theorem ixN_nn {n : Nat} {i : Int} (h0 : 0 ≤ i) (h1 : i < n) : ixN n i = some i.toNat := by
  unfold ixN; rw [if_pos h0, if_pos h1]
theorem pop_at {j : Int} {ds : List D} (h0 : 0 ≤ j) (h1 : j < ds.length) (h2 : j < 2 ^ 62) (h : ∀ d, d ∈ ds → ds[j.toNat]? = some d → Q (d, false) { s with env := s.env.set i (some (.lst (ds.eraseIdx j.toNat), true)) }) : PopQ s i Q (.int j) (some (some (.lst ds, true))) := by
  have hj : j.toNat < ds.length := by omega
  exact ⟨small62_of (by omega) h2, j.toNat, ds[j.toNat], ixN_nn h0 h1, List.getElem?_eq_getElem hj, h _ (List.getElem_mem hj) (List.getElem?_eq_getElem hj)⟩
@[simp] theorem ok_popAt : Ok (popAtM i m) s Q = (IsOwn s.env[i]? ∧ Ok m s fun t s1 => PopQ s1 i Q t.1 s1.env[i]?) := by
  unfold popAtM; rw [ok_onOwn]; congr 1
  refine (ok_bind (m := m)).trans ?_
  congr; funext ⟨d, bb⟩ s1
  unfold Ok ownAt PopQ putO
  dsimp only
  cases s1.env[i]? with
  | none => cases d <;> (first | rfl | (unfold Ok; rfl))
  | some o =>
    cases o with
    | none => cases d <;> (first | rfl | (unfold Ok; rfl))
    | some x =>
      obtain ⟨e, b⟩ := x
      cases e with
      | lst ds =>
        cases b with
        | false => cases d <;> (first | rfl | (unfold Ok; rfl))
        | true =>
          cases d with
          | int j =>
            dsimp only
            by_cases c : small62 j = true
            · rw [if_pos c]
              simp only [c, true_and]
              cases h1 : ixN ds.length j with
              | none => simp
              | some k =>
                dsimp only
                cases h2 : ds[k]? with
                | none => simp [h2]
                | some d => simp [h2]
            · rw [if_neg c]; simp [c]
          | _ => first | rfl | (unfold Ok; rfl)
      | _ => cases d <;> (first | rfl | (unfold Ok; rfl))
end
section
variable {p n : Nat} {m : M Fl} {ds : List D} {st : List (List Int)} {Q : DB → List (List Int) → Prop}
def EndQ (Q : DB → List (List Int) → Prop) (s : S) : Fl → Prop
  | .rt t => Q t s.st
  | .nx => Q (.non, false) s.st
  | _ => False
@[simp] theorem endQ_rt {s : S} {t : DB} : EndQ Q s (.rt t) = Q t s.st := rfl
@[simp] theorem endQ_nx {s : S} : EndQ Q s .nx = Q (.non, false) s.st := rfl
theorem fok_mk : FOk (mkFn p n m) ds st Q = (ds.length = p ∧ Ok m ⟨ds.map (fun d => some (d, false)) ++ List.replicate (n - ds.length) none, st⟩ fun fl s => EndQ Q s fl) := by
  rw [fok_eq]
  unfold FOk0 mkFn
  by_cases h : ds.length = p
  · simp only [h, if_true, true_and]
    unfold Ok
    cases m ⟨ds.map (fun d => some (d, false)) ++ List.replicate (n - p) none, st⟩ with
    | ok fl s => cases fl <;> (first | rfl | (unfold Ok; rfl))
    | _ => first | rfl | (unfold Ok; rfl)
  · simp [h]
end
theorem okMul_l {i j : Int} (h0 : -(2 ^ 64) < i) (h1 : i < 2 ^ 64) : okMul i j := .inl (.inl ⟨h0, h1⟩)
theorem okMul_r {i j : Int} (h0 : -(2 ^ 64) < j) (h1 : j < 2 ^ 64) : okMul i j := .inl (.inr ⟨h0, h1⟩)
theorem log2_lt {n k : Nat} (h : n < 2 ^ k) (hk : 0 < k) : n.log2 < k := by
  by_cases hn : n = 0
  · subst hn; simpa using hk
  · exact (Nat.log2_lt hn).mpr h
theorem okDiv_of {j : Int} (h0 : 0 < j) (h1 : j < 2 ^ 64) : okDiv j := ⟨h0, Nat.lt_of_lt_of_le (log2_lt (k := 64) (by omega) (by decide)) (by decide)⟩
theorem okMul_w {i j : Int} {a b : Nat} (h0 : i.natAbs < 2 ^ a) (h1 : j.natAbs < 2 ^ b) (ha : 0 < a) (hb : 0 < b) (h : a + b ≤ 1000000) : okMul i j := .inr (by
  show i.natAbs.log2 + j.natAbs.log2 < 1000000
  have := log2_lt h0 ha
  have := log2_lt h1 hb
  omega)
end L2.Pd
set_option maxHeartbeats 1000000
namespace L2.Pd
open PySem PySem.Spec PyProof.Rows
/-- d can be shown, in at most n signs, k deep -/
def Shw (n k : Nat) (d : D) : Prop := ∃ p, d.py = some p ∧ PyData.showable p = true ∧ p.shown.length ≤ n ∧ p.depth ≤ k ∧ PyData.hasDict p = false
theorem Shw.mono {n k n' k' : Nat} {d : D} (h : Shw n k d) (h1 : n ≤ n') (h2 : k ≤ k') : Shw n' k' d := by
  obtain ⟨p, a, b, c, e, f⟩ := h
  exact ⟨p, a, b, Nat.le_trans c h1, Nat.le_trans e h2, f⟩
theorem shw_non : Shw 4 0 .non := ⟨.none, rfl, rfl, by decide, by decide, rfl⟩
theorem shw_bl {b : Bool} : Shw 5 0 (.bl b) := ⟨.bool b, rfl, rfl, by cases b <;> decide, Nat.le_refl _, rfl⟩
theorem shw_int {i : Int} {k : Nat} (h : i.natAbs < 2 ^ k) (h0 : 0 < k) (h1 : k ≤ 1900) : Shw (k + 1) 0 (.int i) := by
  have e := log2_lt h h0
  refine ⟨.int i, rfl, ?_, ?_, by simp [PyData.depth], by simp [PyData.hasDict]⟩
  · simp only [PyData.showable, decide_eq_true_eq]; omega
  · simp only [PyData.shown]
    have := int_text_length_le h0 e
    rw [PySem.ofString_length]
    exact this
theorem shwL {n k : Nat} : ∀ (ds : List D), (∀ d ∈ ds, Shw n k d) → ∃ ps, D.pyL ds = some ps ∧ ps.length = ds.length ∧ PyData.showableAll ps = true ∧ ((PyData.shownAll ps).map (·.length)).sum ≤ n * ds.length ∧ PyData.depthAll ps ≤ k ∧ PyData.hasDictAll ps = false
  | [], _ => ⟨[], rfl, rfl, rfl, by simp [PyData.shownAll], by simp [PyData.depthAll], rfl⟩
  | d :: ds, h => by
    obtain ⟨p, a1, a2, a3, a4, a5⟩ := h d List.mem_cons_self
    obtain ⟨ps, b1, b2, b3, b4, b5, b6⟩ := shwL ds fun d hd => h d (List.mem_cons_of_mem _ hd)
    refine ⟨p :: ps, by simp [D.pyL, a1, b1], by simp [b2], by simp [PyData.showableAll, a2, b3], ?_, ?_, by simp [PyData.hasDictAll, a5, b6]⟩
    · simp only [PyData.shownAll, List.map_cons, List.sum_cons, List.length_cons, Nat.mul_add, Nat.mul_one]; omega
    · simp only [PyData.depthAll]; omega
theorem shownAll_len : ∀ ps : List PyData, (PyData.shownAll ps).length = ps.length
  | [] => rfl
  | p :: ps => by simp only [PyData.shownAll, List.length_cons, shownAll_len ps]
theorem shw_tup {n k m : Nat} {ds : List D} (h : ∀ d ∈ ds, Shw n k d) (hl : ds.length ≤ m) : Shw ((n + 2) * m + 3) (k + 1) (.tup ds) := by
  obtain ⟨ps, b1, b2, b3, b4, b5, b6⟩ := shwL ds h
  refine ⟨.tuple ps, by simp [D.py, b1], by simp [PyData.showable, b3], ?_, by simp only [PyData.depth]; omega, by simp [PyData.hasDict, b6]⟩
  simp only [PyData.shown]
  have := tupleText_len_le (PyData.shownAll ps)
  rw [shownAll_len] at this
  have e : (n + 2) * ds.length ≤ (n + 2) * m := Nat.mul_le_mul_left _ hl
  rw [Nat.add_mul] at e
  omega
theorem shw_lst {n k m : Nat} {ds : List D} (h : ∀ d ∈ ds, Shw n k d) (hl : ds.length ≤ m) : Shw ((n + 2) * m + 3) (k + 1) (.lst ds) := by
  obtain ⟨ps, b1, b2, b3, b4, b5, b6⟩ := shwL ds h
  refine ⟨.list ps, by simp [D.py, b1], by simp [PyData.showable, b3], ?_, by simp only [PyData.depth]; omega, by simp [PyData.hasDict, b6]⟩
  simp only [PyData.shown]
  have := listText_len_le (PyData.shownAll ps)
  rw [shownAll_len] at this
  have e : (n + 2) * ds.length ≤ (n + 2) * m := Nat.mul_le_mul_left _ hl
  rw [Nat.add_mul] at e
  omega
theorem repr_ok {n k : Nat} {d : D} (h : Shw n k d) (h1 : n ≤ 16777216) (h2 : k ≤ 60) : ∃ x, reprD [d] = some (.str x, false) := by
  obtain ⟨p, a1, a2, a3, a4, a5⟩ := h
  refine ⟨p.shown, ?_⟩
  unfold reprD
  simp only [a1]
  rw [if_pos ⟨a2, by rw [L2.Pd.sizeLine_eq]; omega, by omega, a5⟩]
theorem bls_true : ∀ (r : List D), (∀ d ∈ r, d = .bl true) → ∃ bs, blsOf r = some bs ∧ bs.all id = true
  | [], _ => ⟨[], rfl, rfl⟩
  | d :: r, h => by
    obtain ⟨bs, e1, e2⟩ := bls_true r fun d hd => h d (List.mem_cons_of_mem _ hd)
    rw [h d List.mem_cons_self]
    exact ⟨true :: bs, by simp [blsOf, e1], by simpa using e2⟩
theorem all_true {r : List D} (h : ∀ d ∈ r, d = .bl true) : allD [.lst r] = some (.bl true, false) := by
  obtain ⟨bs, e1, e2⟩ := bls_true r h
  simp [allD, e1]
  simpa using e2
@[simp] theorem eqD_str {x y : Str} : eqD [.str x, .str y] = some (.bl (decide (x = y)), false) := rfl
@[simp] theorem neD_str {x y : Str} : neD [.str x, .str y] = some (.bl (!decide (x = y)), false) := rfl
end L2.Pd
set_option maxHeartbeats 4000000
namespace L2.Pd
open PySem PySem.Spec PyProof.Rows
mutual
inductive RdsE (h : Heap) : Value → PyData → Prop
  | none : RdsE h .none .none
  | bool (b) : RdsE h (.bool b) (.bool b)
  | int (i t) : RdsE h (.int i t) (.int i)
  | str (x t) : RdsE h (.str x t) (.str x)
  | list {a o vs n xs} : h.get? a = some o → o.cls = .type "list" → o.data = .seq vs n → RdsEA h vs.toList xs → RdsE h (.ref a) (.list xs)
  | tuple {a o vs n xs} : h.get? a = some o → o.cls = .type "tuple" → o.data = .seq vs n → RdsEA h vs.toList xs → RdsE h (.ref a) (.tuple xs)
  | dict {a o n} : h.get? a = some o → o.cls = .type "dict" → o.data = .dict #[] n → (a == sysModules) = false → RdsE h (.ref a) (.dict [])
inductive RdsEA (h : Heap) : List Value → List PyData → Prop
  | nil : RdsEA h [] []
  | cons {v vs d ds} : RdsE h v d → RdsEA h vs ds → RdsEA h (v :: vs) (d :: ds)
end
section
variable {prog : Program} {w : World} {h₀ : Heap}
mutual
theorem RdsE.reads : ∀ {v : Value} {d : PyData}, RdsE h₀ v d → ∃ as, Reads h₀ v d as
  | _, _, .none => ⟨_, .none⟩
  | _, _, .bool b => ⟨_, .bool b⟩
  | _, _, .int i t => ⟨_, .int i t⟩
  | _, _, .str x t => ⟨_, .str x t⟩
  | _, _, .list h1 h2 h3 h4 => let ⟨_, q⟩ := RdsEA.reads h4; ⟨_, .list h1 h2 h3 q⟩
  | _, _, .tuple h1 h2 h3 h4 => let ⟨_, q⟩ := RdsEA.reads h4; ⟨_, .tuple h1 h2 h3 q⟩
  | _, _, .dict h1 h2 h3 _ => ⟨_, .dict (kvs := []) h1 h2 h3 .nil .nil⟩
theorem RdsEA.reads : ∀ {v : List Value} {d : List PyData}, RdsEA h₀ v d → ∃ as, ReadsAll h₀ v d as
  | _, _, .nil => ⟨_, .nil⟩
  | _, _, .cons h1 h2 => let ⟨_, q1⟩ := RdsE.reads h1; let ⟨_, q2⟩ := RdsEA.reads h2; ⟨_, .cons q1 q2⟩
end
theorem ram_nil {n : Nat} : ReadAtMost h₀ n [] := fun _ h => nomatch h
mutual
theorem rk_of : ∀ {v : Value} {d : PyData}, RdsE h₀ v d → d.showable = true → d.shown.length ≤ sizeLine → ∃ bs, ReadAtMost h₀ d.depth bs ∧ ReprK prog w bs h₀ d.depth v d.shown
  | _, _, .none, _, _ => ⟨[], ram_nil, by simp only [PyData.shown]; exact .of_is ReprIs.none _ _ _⟩
  | _, _, .bool b, _, _ => ⟨[], ram_nil, by simp only [PyData.shown]; exact .of_is (ReprIs.bool b) _ _ _⟩
  | _, _, .int i t, hs, _ => ⟨[], ram_nil, by simp only [PyData.shown]; exact .of_is (ReprIs.int t (by simpa [PyData.showable] using hs)) _ _ _⟩
  | _, _, .str x t, _, hz => ⟨[], ram_nil, by simp only [PyData.shown]; exact .of_is (ReprIs.str x t (by simpa only [PyData.shown] using hz)) _ _ _⟩
  | _, _, .list (a := a) (vs := vs) (xs := xs) h1 h2 h3 h4, hs, hz => by
    have hz' : (listText (PyData.shownAll xs)).length ≤ sizeLine := by simpa only [PyData.shown] using hz
    obtain ⟨bs, hb, hk⟩ := rka_of h4 (by simpa [PyData.showable] using hs) (fun t ht => Nat.le_trans (listText_mem_le ht) hz')
    obtain ⟨_, r4⟩ := RdsEA.reads h4
    have r : Reads h₀ (.ref a) (.list xs) _ := .list h1 h2 h3 r4
    have hna : a ∉ bs := not_mem_of_deeper r (by simp only [PyData.depth]; omega) hb
    refine ⟨a :: bs, ReadAtMost.cons r (by simp only [PyData.depth]; omega) hb, ?_⟩
    simp only [PyData.depth, PyData.shown]
    obtain ⟨l⟩ := vs
    cases l with
    | nil =>
      have h4' : RdsEA h₀ [] xs := h4
      cases h4'
      simp only [PyData.shownAll, listText_nil]
      exact ReprK.listEmpty h1 h2 h3
    | cons x l => exact ReprK.list h1 h2 h3 hna (by simpa using hk.length_eq) (fun i y e => hk.item i y (by simpa using e))
  | _, _, .tuple (a := a) (xs := xs) h1 h2 h3 h4, hs, hz => by
    have hz' : (tupleText (PyData.shownAll xs)).length ≤ sizeLine := by simpa only [PyData.shown] using hz
    obtain ⟨bs, hb, hk⟩ := rka_of h4 (by simpa [PyData.showable] using hs) (fun t ht => Nat.le_trans (tupleText_mem_le ht) hz')
    obtain ⟨_, r4⟩ := RdsEA.reads h4
    have r : Reads h₀ (.ref a) (.tuple xs) _ := .tuple h1 h2 h3 r4
    have hna : a ∉ bs := not_mem_of_deeper r (by simp only [PyData.depth]; omega) hb
    refine ⟨a :: bs, ReadAtMost.cons r (by simp only [PyData.depth]; omega) hb, ?_⟩
    simp only [PyData.depth, PyData.shown]
    exact ReprK.tuple h1 h2 h3 hna hk
  | _, _, .dict (a := a) h1 h2 h3 h4, hs, hz => by
    have r : Reads h₀ (.ref a) (.dict []) _ := .dict (kvs := []) h1 h2 h3 .nil .nil
    refine ⟨[a], ReadAtMost.cons (n := 0) r (Nat.zero_le _) ram_nil, ?_⟩
    simp only [PyData.depth, PyData.shown, PyData.shownKv]
    exact ReprK.dict h1 h2 h3 h4 (fun z => nomatch z) .nil
theorem rka_of : ∀ {vs : List Value} {ds : List PyData}, RdsEA h₀ vs ds → PyData.showableAll ds = true → (∀ t ∈ PyData.shownAll ds, t.length ≤ sizeLine) →
    ∃ bs, ReadAtMost h₀ (PyData.depthAll ds) bs ∧ ReprAllK prog w bs h₀ (PyData.depthAll ds) vs (PyData.shownAll ds)
  | _, _, .nil, _, _ => ⟨[], ram_nil, by simp only [PyData.shownAll]; exact .nil⟩
  | _, _, .cons (d := d) (ds := ds) r rs, hs, hz => by
    have hs' : d.showable = true ∧ PyData.showableAll ds = true := by simpa [PyData.showableAll] using hs
    obtain ⟨b1, hb1, k1⟩ := rk_of r hs'.1 (hz _ (by simp only [PyData.shownAll]; exact List.mem_cons_self ..))
    obtain ⟨b2, hb2, k2⟩ := rka_of rs hs'.2 (fun t ht => hz t (by simp only [PyData.shownAll]; exact List.mem_cons_of_mem _ ht))
    refine ⟨b1 ++ b2, ?_, ?_⟩
    · simp only [PyData.depthAll]
      exact (hb1.mono (Nat.le_max_left _ _)).append (hb2.mono (Nat.le_max_right _ _))
    · simp only [PyData.depthAll, PyData.shownAll]
      exact .cons ((k1.more fun b hb => List.mem_append_left _ hb).level_le (Nat.le_max_left _ _)) (k2.more_le (fun b hb => List.mem_append_right _ hb) (Nat.le_max_right _ _))
end
theorem showsE {a : Addr} {d : PyData} (r : RdsE h₀ (.ref a) d) (hs : d.showable = true) (hsz : d.shown.length ≤ sizeLine) : ∃ T idr, ShowsBy prog w h₀ a d T idr := by
  cases r with
  | list h1 h2 h3 h4 =>
    rename_i o vs n xs
    have hz' : (listText (PyData.shownAll xs)).length ≤ sizeLine := by simpa only [PyData.shown] using hsz
    obtain ⟨bs, hb, hk⟩ := rka_of (prog := prog) (w := w) h4 (by simpa [PyData.showable] using hs) (fun t ht => Nat.le_trans (listText_mem_le ht) hz')
    obtain ⟨_, r4⟩ := RdsEA.reads h4
    have hna : a ∉ bs := not_mem_of_deeper (.list h1 h2 h3 r4) (by simp only [PyData.depth]; omega) hb
    refine ⟨"list", "list.__repr__", F.slot_list_repr.toG, F.slot_list_str, F.slot_list_format, fun s hk0 => ⟨o, hk0 _ _ h1, h2⟩, fun A E s Q hg hu hk0 hQ => ?_⟩
    simp only [PyData.depth] at hu
    simp only [PyData.shown] at hQ
    obtain ⟨l⟩ := vs
    cases l with
    | nil =>
      have h4' : RdsEA h₀ [] xs := h4
      cases h4'
      simp only [PyData.shownAll, listText_nil] at hQ
      exact call_list_repr_empty ⟨o, hk0 _ _ h1, h2⟩ (hk0 _ _ h1) h3 (hQ s.heap _ _ fun _ _ e => e)
    | cons x l =>
      exact call_list_reprK h1 h2 h3 hna (by simpa using hk.length_eq) (fun i y e => hk.item i y (by simpa using e)) hg (fun b _ => Clear.nil b) hu hk0 hQ hz'
  | tuple h1 h2 h3 h4 =>
    rename_i o vs n xs
    have hz' : (tupleText (PyData.shownAll xs)).length ≤ sizeLine := by simpa only [PyData.shown] using hsz
    obtain ⟨bs, hb, hk⟩ := rka_of (prog := prog) (w := w) h4 (by simpa [PyData.showable] using hs) (fun t ht => Nat.le_trans (tupleText_mem_le ht) hz')
    obtain ⟨_, r4⟩ := RdsEA.reads h4
    have hna : a ∉ bs := not_mem_of_deeper (.tuple h1 h2 h3 r4) (by simp only [PyData.depth]; omega) hb
    refine ⟨"tuple", "tuple.__repr__", F.slot_tuple_repr, F.slot_tuple_str, F.slot_tuple_format, fun s hk0 => ⟨o, hk0 _ _ h1, h2⟩, fun A E s Q hg hu hk0 hQ => ?_⟩
    simp only [PyData.depth] at hu
    simp only [PyData.shown] at hQ
    exact call_tuple_reprK h1 h2 h3 hna hk hg (fun b _ => Clear.nil b) hu hk0 hQ hz'
  | dict h1 h2 h3 h4 =>
    rename_i o n
    refine ⟨"dict", "dict.__repr__", F.slot_dict_repr, F.slot_dict_str, F.slot_dict_format, fun s hk0 => ⟨o, hk0 _ _ h1, h2⟩, fun A E s Q hg hu hk0 hQ => ?_⟩
    simp only [PyData.depth] at hu
    simp only [PyData.shown, PyData.shownKv] at hQ hsz
    exact call_dict_reprK (as := []) (d := 0) h1 h2 h3 h4 (fun z => nomatch z) .nil hg (fun b _ => Clear.nil b) (by omega) hk0 hQ hsz
end
mutual
def D.pe : D → Option PyData
  | .non => some .none
  | .bl b => some (.bool b)
  | .int i => some (.int i)
  | .str x => some (.str x)
  | .ty _ => none
  | .tup ds => (D.peL ds).map .tuple
  | .lst ds => (D.peL ds).map .list
  | .box _ => none
  | .dct ks _ => if ks = [] then some (.dict []) else none
  | .glo _ => none
  | .exc .. => none
def D.peL : List D → Option (List PyData)
  | [] => some []
  | d :: ds => match D.pe d, D.peL ds with
    | some p, some ps => some (p :: ps)
    | _, _ => none
end
section
variable {X : Cx} {pins : List (Addr × Obj)} {σ : St} {H : Hp} {s : Shared} {bx : Bxs} {W : Wd}
mutual
theorem Rep.rdsE (I : Inv X pins σ H s) : ∀ (d : D) (p : PyData) (v : V) (u : Value), Rep X.K bx W H d v → d.pe = some p → RelV v u → RdsE s.heap u p
  | .non, p, v, u, h, e, r => by rw [h.non] at r; simp only [D.pe, Option.some.injEq] at e; subst e; cases r; exact .none
  | .bl b, p, v, u, h, e, r => by rw [h.bl] at r; simp only [D.pe, Option.some.injEq] at e; subst e; cases r; exact .bool b
  | .int i, p, v, u, h, e, r => by rw [h.int] at r; simp only [D.pe, Option.some.injEq] at e; subst e; obtain ⟨t, rfl⟩ := r; exact .int i t
  | .str x, p, v, u, h, e, r => by rw [h.str] at r; simp only [D.pe, Option.some.injEq] at e; subst e; obtain ⟨t, rfl⟩ := r; exact .str x t
  | .ty _, _, _, _, _, e, _ => by simp only [D.pe] at e; cases e
  | .box _, _, _, _, _, e, _ => by simp only [D.pe] at e; cases e
  | .glo _, _, _, _, _, e, _ => by simp only [D.pe] at e; cases e
  | .exc .., _, _, _, _, e, _ => by simp only [D.pe] at e; cases e
  | .tup ds, p, v, u, h, e, r => by
    obtain ⟨a, xs, rfl, h1, h2⟩ := h.tup
    simp only [D.pe, Option.map_eq_some_iff] at e
    obtain ⟨ps, e1, rfl⟩ := e
    cases r
    obtain ⟨its, rv, ⟨o, ho, hc, n, hd⟩, _⟩ := I.tuple h1
    exact .tuple ho hc hd (RepL.rdsE I ds ps _ _ h2 e1 rv)
  | .lst ds, p, v, u, h, e, r => by
    obtain ⟨a, xs, rfl, h1, h2⟩ := h.lst
    simp only [D.pe, Option.map_eq_some_iff] at e
    obtain ⟨ps, e1, rfl⟩ := e
    cases r
    obtain ⟨its, rv, ⟨o, n, ho, hc, _, hd⟩, _⟩ := I.list h1
    exact .list ho hc hd (RepL.rdsE I ds ps _ _ h2 e1 rv)
  | .dct ks ds, p, v, u, h, e, r => by
    simp only [D.pe] at e
    split at e
    · rename_i hk
      subst hk
      simp only [Option.some.injEq] at e
      subst e
      unfold Rep at h
      obtain ⟨a, xs, rfl, hl, h1, _⟩ := h
      cases r
      obtain ⟨_, hsm, vs, kv, o, es, ep, q1, q2, q3, q4, q5, _⟩ := dk_rd I.hok h1
      have ev : vs = [] := by cases kv; rfl
      subst ev
      obtain ⟨es⟩ := es
      have ee : es = [] := by
        cases es with
        | nil => rfl
        | cons a b => cases q5
      subst ee
      exact .dict q1 q2.1 q3 hsm
    · cases e
theorem RepL.rdsE (I : Inv X pins σ H s) : ∀ (ds : List D) (ps : List PyData) (vs : List V) (us : List Value), RepL X.K bx W H ds vs → D.peL ds = some ps → Vals vs us → RdsEA s.heap us ps
  | [], ps, vs, us, h, e, r => by
    unfold RepL at h
    subst h
    simp only [D.peL, Option.some.injEq] at e
    subst e
    cases r
    exact .nil
  | d :: ds, ps, vs, us, h, e, r => by
    unfold RepL at h
    obtain ⟨v, vs', rfl, h1, h2⟩ := h
    simp only [D.peL] at e
    split at e
    · rename_i p ps' e1 e2
      simp only [Option.some.injEq] at e
      subst e
      cases r with
      | cons r1 r2 => exact .cons (Rep.rdsE I d p v _ h1 e1 r1) (RepL.rdsE I ds ps' vs' _ h2 e2 r2)
    · cases e
end
end
def reprE : List D → Option DB
  | [d] => match d.pe with
    | some p => if PyData.showable p = true ∧ p.shown.length ≤ sizeLine ∧ p.depth ≤ 60 then some (.str p.shown, false) else none
    | none => none
  | _ => none
def strD : List D → Option DB
  | [.int i] => if i.natAbs.log2 < 1920 then some (.str (toString i), false) else none
  | _ => none
section
variable {X : Cx}
theorem call_reprE (hgd : X.A.guards = some []) (hu : X.A.units + 64 < cLine) : CallR X (.builtin "repr") (Pu X.K reprE) := by
  intro pins s σ H xs us Q I r h
  obtain ⟨bx, W, ds, t, q, e, k⟩ := h
  unfold reprE at e
  split at e
  · rename_i d
    split at e
    · rename_i p hp
      split at e
      · rename_i c
        cases e
        obtain ⟨v, vs, rfl, h1, h2⟩ := q.uncons
        rw [h2.unnil] at r
        obtain ⟨u, rfl, ru⟩ := vals1 r
        have rd := Rep.rdsE I d p v u h1 hp ru
        obtain ⟨c1, c2, c3⟩ := c
        have fin : ∀ (tk : Tok) (n : Nat), EP X pins σ Q (.str p.shown tk) { s with toks := n } := fun tk n => ⟨.str p.shown, H, I.tok _, ⟨_, rfl⟩, k _ H Grow.refl (ResN.old Rep.mstr)⟩
        have go : ∀ (a : Addr) (E : Value → Shared → Prop), u = .ref a → wpAny (model X.prog X.w) X.A (call (.builtin "repr") [.ref a]) (EP X pins σ Q) E s := fun a E ea => by
          obtain ⟨T, idr, S⟩ := showsE (prog := X.prog) (w := X.w) (ea ▸ rd) c1 c2
          refine call_repr_slot (by omega) (S.typeIs s fun _ _ e => e) S.slotRepr (S.call X.A.in1 _ s _ hgd (by show X.A.units + 1 + p.depth < cLine; omega) (fun _ _ e => e) fun h' u tk hk => ⟨_, _, rfl, ?_⟩)
          exact ⟨.str _, H, I.kept (t' := tk) hk, ⟨_, rfl⟩, k _ H Grow.refl (ResN.old Rep.mstr)⟩
        cases rd with
        | none => exact PySem.P.repr_of_none (fin _ _)
        | bool b => exact PySem.P.repr_of_bool (fin _ _)
        | int i t => exact PySem.P.repr_of_int (of_decide_eq_true c1) (fin _ _)
        | str x t => exact PySem.P.repr_of_str (fin _ _) c2
        | list g1 g2 g3 g4 => exact go _ _ rfl
        | tuple g1 g2 g3 g4 => exact go _ _ rfl
        | dict g1 g2 g3 g4 => exact go _ _ rfl
      · cases e
    · cases e
  · cases e
theorem call_strD : CallR X (.type "str") (Pu X.K strD) := by
  intro pins s σ H xs us Q I r h
  obtain ⟨bx, W, ds, t, q, e, k⟩ := h
  unfold strD at e
  split at e
  · split at e
    · rename_i c
      cases e
      obtain ⟨v, vs, rfl, h1, h2⟩ := q.uncons
      rw [h2.unnil, h1.int] at r
      exact call_str_int pins s σ H _ us Q I r ⟨_, rfl, c, k _ H Grow.refl (ResN.old Rep.mstr)⟩
    · cases e
  · cases e
end
def ShE (n k : Nat) (d : D) : Prop := ∃ p, d.pe = some p ∧ PyData.showable p = true ∧ p.shown.length ≤ n ∧ p.depth ≤ k
theorem ShE.mono {n k n' k' : Nat} {d : D} (h : ShE n k d) (h1 : n ≤ n') (h2 : k ≤ k') : ShE n' k' d := by
  obtain ⟨p, a, b, c, e⟩ := h
  exact ⟨p, a, b, Nat.le_trans c h1, Nat.le_trans e h2⟩
theorem she_non : ShE 4 0 .non := ⟨.none, rfl, rfl, by decide, by decide⟩
theorem she_bl {b : Bool} : ShE 5 0 (.bl b) := ⟨.bool b, rfl, rfl, by cases b <;> decide, Nat.le_refl _⟩
theorem she_dct {ds : List D} : ShE 2 1 (.dct [] ds) := ⟨.dict [], by simp [D.pe], by simp [PyData.showable, PyData.showableKv], by simp only [PyData.shown, PyData.shownKv]; decide, by simp only [PyData.depth, PyData.depthKv]; decide⟩
theorem she_int {i : Int} {k : Nat} (h : i.natAbs < 2 ^ k) (h0 : 0 < k) (h1 : k ≤ 1900) : ShE (k + 1) 0 (.int i) := by
  obtain ⟨p, a1, a2, a3, a4, _⟩ := shw_int h h0 h1
  cases a1
  exact ⟨.int i, rfl, a2, a3, a4⟩
theorem sheL {n k : Nat} : ∀ (ds : List D), (∀ d ∈ ds, ShE n k d) → ∃ ps, D.peL ds = some ps ∧ ps.length = ds.length ∧ PyData.showableAll ps = true ∧ ((PyData.shownAll ps).map (·.length)).sum ≤ n * ds.length ∧ PyData.depthAll ps ≤ k
  | [], _ => ⟨[], rfl, rfl, rfl, by simp [PyData.shownAll], by simp [PyData.depthAll]⟩
  | d :: ds, h => by
    obtain ⟨p, a1, a2, a3, a4⟩ := h d List.mem_cons_self
    obtain ⟨ps, b1, b2, b3, b4, b5⟩ := sheL ds fun d hd => h d (List.mem_cons_of_mem _ hd)
    refine ⟨p :: ps, by simp [D.peL, a1, b1], by simp [b2], by simp [PyData.showableAll, a2, b3], ?_, ?_⟩
    · simp only [PyData.shownAll, List.map_cons, List.sum_cons, List.length_cons, Nat.mul_add, Nat.mul_one]; omega
    · simp only [PyData.depthAll]; omega
theorem she_tup {n k m : Nat} {ds : List D} (h : ∀ d ∈ ds, ShE n k d) (hl : ds.length ≤ m) : ShE ((n + 2) * m + 3) (k + 1) (.tup ds) := by
  obtain ⟨ps, b1, b2, b3, b4, b5⟩ := sheL ds h
  refine ⟨.tuple ps, by simp [D.pe, b1], by simp [PyData.showable, b3], ?_, by simp only [PyData.depth]; omega⟩
  simp only [PyData.shown]
  have := tupleText_len_le (PyData.shownAll ps)
  rw [shownAll_len] at this
  have e : (n + 2) * ds.length ≤ (n + 2) * m := Nat.mul_le_mul_left _ hl
  rw [Nat.add_mul] at e
  omega
theorem she_lst {n k m : Nat} {ds : List D} (h : ∀ d ∈ ds, ShE n k d) (hl : ds.length ≤ m) : ShE ((n + 2) * m + 3) (k + 1) (.lst ds) := by
  obtain ⟨ps, b1, b2, b3, b4, b5⟩ := sheL ds h
  refine ⟨.list ps, by simp [D.pe, b1], by simp [PyData.showable, b3], ?_, by simp only [PyData.depth]; omega⟩
  simp only [PyData.shown]
  have := listText_len_le (PyData.shownAll ps)
  rw [shownAll_len] at this
  have e : (n + 2) * ds.length ≤ (n + 2) * m := Nat.mul_le_mul_left _ hl
  rw [Nat.add_mul] at e
  omega
theorem reprE_ok {n k : Nat} {d : D} (h : ShE n k d) (h1 : n ≤ 16777216) (h2 : k ≤ 60) : ∃ x, reprE [d] = some (.str x, false) := by
  obtain ⟨p, a1, a2, a3, a4⟩ := h
  refine ⟨p.shown, ?_⟩
  unfold reprE
  simp only [a1]
  rw [if_pos ⟨a2, by rw [L2.Pd.sizeLine_eq]; omega, by omega⟩]
end L2.Pd
set_option maxHeartbeats 2000000
namespace L2.Pd
open PySem PySem.Spec PyProof.Rows L2
def strsOf : List D → Option (List Str)
  | [] => some []
  | .str x :: ds => (strsOf ds).map (x :: ·)
  | _ => none
theorem strsOf_rep {K : PySem.W.Frag} {bx : Bxs} {W : Wd} {H : Hp} : ∀ {ds : List D} {ys : List Str} {xs : List V}, strsOf ds = some ys → RepL K bx W H ds xs → xs = ys.map V.str
  | [], ys, xs, e, h => by cases e; exact h.unnil
  | d :: ds, ys, xs, e, h => by
    cases d with
    | str x =>
      obtain ⟨ys', e', rfl⟩ := Option.map_eq_some_iff.mp (show (strsOf ds).map (x :: ·) = some ys from e)
      obtain ⟨v, vs, rfl, h1, h2⟩ := h.uncons
      rw [h1.str, strsOf_rep e' h2]
      rfl
    | _ => cases e
def joinD : D → D → Option DB
  | .str a, .lst ds => (strsOf ds).bind fun ys => if (ys.map (·.length)).sum + ys.length * a.length ≤ 16777216 then some (.str (Txt.join a ys), false) else none
  | _, _ => none
def isStrD : D → Option DB
  | .str _ => some (.non, false)
  | _ => none
theorem isStrD_ok {d : D} {t : DB} (h : isStrD d = some t) : ∃ x, d = .str x := by
  cases d with
  | str x => exact ⟨x, rfl⟩
  | _ => cases h
def joinM (mo me : M DB) : M DB := do
  let x ← mo
  let _ ← lift (isStrD x.1)
  let y ← me
  lift (joinD x.1 y.1)
def splitD : D → D → Option DB
  | .str a, .str b => if (b.length == 0) = false ∧ a.length + 2 ≤ sizeLine then some (.lst ((Txt.split a b).map D.str), true) else none
  | _, _ => none
def splitM (mo me : M DB) : M DB := do
  let x ← mo
  let _ ← lift (isStrD x.1)
  let y ← me
  lift (splitD x.1 y.1)
theorem RepL.strs {K : PySem.W.Frag} {bx : Bxs} {W : Wd} {H : Hp} : ∀ ys : List Str, RepL K bx W H (ys.map D.str) (ys.map V.str)
  | [] => .nil
  | y :: ys => .cons Rep.mstr (RepL.strs ys)
def intTD : List D → Option DB
  | [.str a] => if a.length ≤ 640 then (PySem.intText? a).map fun n => (.int n, false) else none
  | _ => none
def inSgD : List D → Option DB
  | [.str a, .str z] => match a.cps.toList with
    | [c] => some (.bl (decide (c ∈ z.cps.toList)), false)
    | _ => none
  | _ => none
theorem blF_inSg : BlF inSgD := fun ds t h => by
  unfold inSgD at h
  split at h
  · split at h
    · cases h; exact ⟨_, rfl⟩
    · cases h
  · cases h
def strI (m : M DB) : M (List D) := do
  let x ← m
  match x.1 with
  | .str a => pure (a.cps.toList.map fun c => D.str ⟨#[c]⟩)
  | _ => fun _ => .no
section
variable {X : Cx} {o e : Expr} {mo me ma : M DB} {apos pos : Pos}
theorem se_join (ho : SE X o mo) (he : SE X e me) (hs : starEach [e] X.env = [(false, eval e X.env)] := by rfl) (hbase : attributeBase o "join" X.env (eval o X.env) = eval o X.env := by rfl) (hline : (apos.endLine == pos.line) = true := by rfl) :
    SE X (.Call (.Attribute o "join" apos) [e] [] pos) (joinM mo me) :=
  PE.weak (pe_join ho.d he.d hs hbase hline) fun σ H Q h => by
    obtain ⟨F, T, bx, s, r, t, s', e, k⟩ := h
    obtain ⟨x, s1, e1, f1⟩ := bind_ok e
    obtain ⟨u, s2, e2, f2⟩ := bind_ok f1
    obtain ⟨e3, rfl⟩ := lift_ok e2
    obtain ⟨y, s3, e4, f3⟩ := bind_ok f2
    obtain ⟨e5, rfl⟩ := lift_ok f3
    obtain ⟨a, ha⟩ := isStrD_ok e3
    obtain ⟨xd, xf⟩ := x
    have ha : xd = .str a := ha
    subst ha
    refine ⟨F, T, bx, s, r, .str a, s2, by rw [bind_run, e1]; rfl, fun v bx1 H1 x1 q1 => ⟨⟨a, q1.str⟩, F, T, bx1, s2, x1.rel, y.1, s', by rw [bind_run, e4]; rfl, fun w bx2 H2 x2 q2 => ?_⟩⟩
    obtain ⟨yd, yf⟩ := y
    cases yd with
    | lst ds =>
      obtain ⟨ys, ey, e6⟩ := Option.bind_eq_some_iff.mp (show (strsOf ds).bind _ = some t from e5)
      split at e6
      · rename_i c
        cases e6
        obtain ⟨l, xs, rfl, h1, h2⟩ := q2.lst
        rw [strsOf_rep ey h2] at h1
        refine ⟨a, l, ys, q1.str, rfl, .inl h1, c, ?_⟩
        obtain ⟨y2, z⟩ := ResN.res x2.rel Grow.refl (ResN.old (K := X.K) (bx := bx2) (W := Wf F s' σ T) (Rep.mstr (i := Txt.join a ys)))
        exact k _ bx2 H2 ((x1.trans x2).trans y2) z
      · cases e6
    | _ => cases e5
theorem se_split (ho : SE X o mo) (he : SE X e me) (hs : starEach [e] X.env = [(false, eval e X.env)] := by rfl) (hbase : attributeBase o "split" X.env (eval o X.env) = eval o X.env := by rfl) (hline : (apos.endLine == pos.line) = true := by rfl) :
    SE X (.Call (.Attribute o "split" apos) [e] [] pos) (splitM mo me) :=
  PE.weak (pe_split ho.d he.d hs hbase hline) fun σ H Q h => by
    obtain ⟨F, T, bx, s, r, t, s', e, k⟩ := h
    obtain ⟨x, s1, e1, f1⟩ := bind_ok e
    obtain ⟨u, s2, e2, f2⟩ := bind_ok f1
    obtain ⟨e3, rfl⟩ := lift_ok e2
    obtain ⟨y, s3, e4, f3⟩ := bind_ok f2
    obtain ⟨e5, rfl⟩ := lift_ok f3
    obtain ⟨a, ha⟩ := isStrD_ok e3
    obtain ⟨xd, xf⟩ := x
    have ha : xd = .str a := ha
    subst ha
    refine ⟨F, T, bx, s, r, .str a, s2, by rw [bind_run, e1]; rfl, fun v bx1 H1 x1 q1 => ⟨⟨a, q1.str⟩, F, T, bx1, s2, x1.rel, y.1, s', by rw [bind_run, e4]; rfl, fun w bx2 H2 x2 q2 => ?_⟩⟩
    obtain ⟨yd, yf⟩ := y
    cases yd with
    | str b =>
      have e5 : (if (b.length == 0) = false ∧ a.length + 2 ≤ sizeLine then some (D.lst ((Txt.split a b).map D.str), true) else none) = some t := e5
      split at e5
      · rename_i c
        cases e5
        refine ⟨a, b, q1.str, by rw [q2.str], c.1, c.2, fun p hp => ?_⟩
        obtain ⟨y2, z⟩ := ResN.res x2.rel (Grow.new hp) (ResN.newL (K := X.K) (bx := bx2) (W := Wf F s' σ T) hp (RepL.strs (Txt.split a b)))
        exact k _ bx2 _ ((x1.trans x2).trans y2) z
      · cases e5
    | _ => cases e5
theorem call_intTD : CallR X (.type "int") (Pu X.K intTD) := by
  intro pins s σ H xs us Q I r h
  obtain ⟨bx, W, ds, t, q, e, k⟩ := h
  unfold intTD at e
  split at e
  · split at e
    · rename_i c
      obtain ⟨n, en, rfl⟩ := Option.map_eq_some_iff.mp e
      obtain ⟨v, vs, rfl, h1, h2⟩ := q.uncons
      rw [h2.unnil, h1.str] at r
      exact call_int_str pins s σ H _ us Q I r ⟨_, _, rfl, en, c, k _ H Grow.refl (ResN.old Rep.mint)⟩
    · cases e
  · cases e
theorem op_inSg : OpR X (compareOp .In) (P2 X.K inSgD) := by
  intro pins s σ H x y v u Q I rx ry h
  obtain ⟨bx, W, ds, t, r, e, k⟩ := h
  obtain ⟨d1, d2, rfl, h1, h2⟩ := r.two
  unfold inSgD at e
  split at e
  · rename_i a z q
    cases q
    split at e
    · rename_i c hc
      cases e
      have ea : a = ⟨#[c]⟩ := by
        obtain ⟨ac⟩ := a
        congr 1
        exact Array.toList_inj.mp hc
      rw [h1.str] at rx
      rw [h2.str] at ry
      rw [ea] at rx
      exact op_in_sign pins s σ H _ _ v u Q I rx ry ⟨c, z, rfl, rfl, k _ H Grow.refl (ResN.old Rep.mbl)⟩
    · cases e
  · cases e
theorem si_str {tg : Expr} (h : SE X e ma) : SI X tg e (strI ma) := PI.weak (pi_str h.d) fun σ H R h => by
  obtain ⟨F, T, bx, s, r, ds, s', e, k⟩ := h
  obtain ⟨x, s1, e1, f1⟩ := bind_ok e
  obtain ⟨xd, xf⟩ := x
  cases xd with
  | str a =>
    cases f1
    refine ⟨F, T, bx, s, r, .str a, s', by rw [bind_run, e1]; rfl, fun v bx1 H1 x1 q1 => ⟨a, q1.str, ?_⟩⟩
    refine k (Its a) bx1 H1 x1 fun bx' W' H' tr fz => ⟨fun i hi => ?_, ?_⟩
    · have hi : i < a.cps.size := by simpa using hi
      refine ⟨hi, fun x H'' ⟨e1, c, e2, e3⟩ => ?_⟩
      subst e1
      refine ⟨Grow.refl, fun d hd => ?_⟩
      rw [List.getElem?_map] at hd
      obtain ⟨c', hc', rfl⟩ := Option.map_eq_some_iff.mp hd
      have : c' = c := by
        rw [Array.getElem?_toList] at hc'
        rw [hc'] at e2
        cases e2
        rfl
      rw [e3, this]
      exact Rep.mstr
    · show a.cps.size ≤ _
      simp
  | _ => cases f1
/-- f"{a}T{b}" of ints -/
def fsOk (i j : Int) (z : Str) : Prop := i.natAbs.log2 < 1920 ∧ j.natAbs.log2 < 1920 ∧ (Str.empty ++ (toString i : Str) ++ z ++ (toString j : Str)).length ≤ sizeLine ∧ (Str.empty ++ (toString i : Str) ++ z).length ≤ sizeLine ∧ (Str.empty ++ (toString i : Str)).length ≤ sizeLine
instance (i j : Int) (z : Str) : Decidable (fsOk i j z) := by unfold fsOk; exact inferInstance
def fs3D (z : Str) : D → D → Option DB
  | .int i, .int j => if fsOk i j z then some (.str (Str.empty ++ (toString i : Str) ++ z ++ (toString j : Str)), false) else none
  | _, _ => none
def fs3M (z : Str) (ma mb : M DB) : M DB := do
  let x ← ma
  let y ← mb
  lift (fs3D z x.1 y.1)
theorem se_fs3 {e2 : Expr} {mb : M DB} {z : Str} {jn : Nat} {p1 p2 p3 pos : Pos} (ha : SE X e ma) (hb : SE X e2 mb) : SE X (.JoinedStr [.FormattedValue e (-1) none p1, .Constant (.str z) jn p2, .FormattedValue e2 (-1) none p3] pos) (fs3M z ma mb) := by
  refine PE.weak (pe_joined (.cons (pe_fmt ha.d) (.cons pe_str (.cons (pe_fmt hb.d) .nil)))) fun σ H Q h => ?_
  obtain ⟨F, T, bx, s, r, t, s', e, k⟩ := h
  obtain ⟨x, s1, e1, f1⟩ := bind_ok e
  obtain ⟨y, s2, e2, f2⟩ := bind_ok f1
  obtain ⟨e3, rfl⟩ := lift_ok f2
  obtain ⟨xd, xf⟩ := x
  obtain ⟨yd, yf⟩ := y
  cases xd with
  | int i =>
    cases yd with
    | int j =>
      have e3 : (if fsOk i j z then some (D.str (Str.empty ++ (toString i : Str) ++ z ++ (toString j : Str)), false) else none) = some t := e3
      split at e3
      · rename_i c
        obtain ⟨c1, c2, c3, c4, c5⟩ := c
        cases e3
        refine ⟨F, T, bx, s, r, .int i, s1, by rw [bind_run, e1]; rfl, fun v bx1 H1 x1 q1 => .inr ⟨i, q1.int, c1, _, rfl, c5, _, rfl, c4, F, T, bx1, s1, x1.rel, .int j, s', by rw [bind_run, e2]; rfl, fun w bx2 H2 x2 q2 => .inr ⟨j, q2.int, c2, _, rfl, c3, ?_⟩⟩⟩
        exact k _ bx2 H2 (x1.trans x2) (Res.old Rep.mstr)
      · cases e3
    | _ => cases e3
  | _ => cases e3
end
end L2.Pd
set_option maxHeartbeats 4000000
namespace L2.Pd
open PySem PySem.Spec PyProof.Rows
def rCntB (K : PySem.W.Frag) : V → List V → Hp → VK → Prop := fun x xs H Q => ∃ (p : Addr) (bs : List Bool) (b : Bool), x = .ref p ∧ xs = [.bl b] ∧ SqL K H p (bs.map V.bl) ∧ Q (.int (bs.count b : Nat)) H
theorem cntB_eq {b : Bool} : ∀ {bs : List Bool} {us : List Value}, Vals (bs.map V.bl) us → us.countP (eqU (.bl b)) = bs.count b
  | [], _, .nil => rfl
  | c :: bs, u :: us, .cons r t => by
    have e := cntB_eq (b := b) t
    have e2 := eqU_of (x := .bl b) r rfl
    have e3 : eqV (.bl c) (.bl b) = (c == b) := rfl
    rw [e3] at e2
    rw [List.countP_cons, List.count_cons, e, e2]
theorem flatB (bs : List Bool) : (bs.map V.bl).all flatV = true := by
  induction bs with
  | nil => rfl
  | cons b bs ih => simp [flatV, ih]
section
variable {X : Cx}
theorem mt_lcountB : MtR X "list.count" (rCntB X.K) := by
  intro pins s σ H x xs v us Q I rx rxs h
  obtain ⟨p, bs, b, rfl, rfl, hs, q⟩ := h
  cases rx
  obtain ⟨u, rfl, ru⟩ := rxs.one
  obtain ⟨its, rv, ⟨⟨cls, dd, data, sl⟩, n, ho, hc, hdn, hd⟩, hlen⟩ := I.list hs
  simp only at hc hd
  subst hc hd
  refine call_meets PySem.F.slot_list_count ⟨_, ho, rfl⟩ PySem.F.entry_list_count (PySem.F.args_list_count_2 _ _)
    (SeqAt.list_countAt p its.toArray n dd sl u (eqU (.bl b))) ⟨ho, fun y hy => mem_eqAt ru rfl rv (flatB bs) y (by simpa using hy), ?_⟩
  have ec : its.toArray.toList.countP (eqU (.bl b)) = bs.count b := cntB_eq rv
  refine ⟨.int (bs.count b : Nat), H, I.tok _, ⟨s.toks, ?_⟩, q⟩
  show Value.int ((its.toArray.toList.countP (eqU (.bl b)) : Nat) : Int) s.toks = Value.int ((bs.count b : Nat) : Int) s.toks
  rw [ec]
end
def cntBD : D → D → Option DB
  | .lst ds, .bl b => (blsOf ds).map fun bs => (.int (bs.count b : Nat), false)
  | _, _ => none
def idxBD : D → D → Option DB
  | .lst ds, .bl b => (blsOf ds).bind fun bs => if bs.contains b then some (.int (bs.idxOf b : Nat), false) else none
  | _, _ => none
def lookLM (f : D → D → Option DB) (i : Nat) (ma : M DB) : M DB := do
  let d0 ← peek i
  let _ ← lift (isLD d0)
  let y ← ma
  let d ← peek i
  lift (f d y.1)
section
variable {X : Cx} {a : Expr} {ma : M DB} {x : Str} {p apos cpos : Pos}
theorem se_cntB (i : Nat) (ha : SE X a ma) (hN : X.N[i]? = some x := by rfl) (hv : Vis X.env.scope x := by first | exact Or.inl rfl | exact Or.inr (Or.inl rfl) | exact Or.inr (Or.inr rfl)) (hd : (x == ("__debug__" : Str)) = false := by decide)
    (hcd : (x == ("__classdict__" : Str)) = false := by decide)
    (hbase : attributeBase (.Name x p) "count" X.env (eval (.Name x p) X.env) = eval (.Name x p) X.env := by rfl)
    (hfew : ((backTo cpos (starEach [a] X.env)).all (fun x => !x.1) && (backToKw cpos (keywordEach [] X.env)).all (fun x => x.1.isSome)
      && decide ([a].length + ([] : List Keyword).length + (if ([] : List Keyword).isEmpty then 0 else 1) < 30)) = true := by rfl)
    (hline : (apos.endLine == cpos.line) = true := by rfl) (hs : starEach [a] X.env = (false, eval a X.env) :: starEach [] X.env := by rfl) (hplain : (backTo cpos (starEach [] X.env)).any (·.1) = false := by rfl) :
    SE X (.Call (.Attribute (.Name x p) "count" apos) [a] [] cpos) (lookLM cntBD i ma) :=
  PE.weak (pe_bm PySem.F.plainAttrs_list PySem.F.slot_list_count PySem.F.type_list_count mt_lcountB (pe_var hN hv hd hcd) (pa_cons ha.d pa_nil hs) hbase hfew hline hs hplain) fun σ H Q h => by
    obtain ⟨F, T, bx, s, r, t, s', e, k⟩ := h
    obtain ⟨d0, s1, e1, f1⟩ := bind_ok e
    obtain ⟨rfl, b0, h0⟩ := peek_ok e1
    obtain ⟨_, s2, e2, f2⟩ := bind_ok f1
    obtain ⟨e3, rfl⟩ := lift_ok e2
    obtain ⟨w, s3, e4, f3⟩ := bind_ok f2
    obtain ⟨d, s4, e5, f4⟩ := bind_ok f3
    obtain ⟨rfl, b1, h1⟩ := peek_ok e5
    obtain ⟨e6, rfl⟩ := lift_ok f4
    obtain ⟨v, hσ, hO⟩ := r.peek h0
    unfold isLD at e3
    split at e3
    · obtain ⟨l, xs, rfl, hq, _⟩ := hO.lst
      refine ⟨.ref l, hσ, .inl ⟨rfl, xs, hq⟩, F, T, bx, _, r, w.1, _, by rw [bind_run, e4]; rfl, fun u bx1 H1 x1 q1 => ?_⟩
      obtain ⟨v', hσ', hO1⟩ := x1.rel.peek h1
      rw [hσ] at hσ'; cases hσ'
      unfold cntBD at e6
      split at e6
      · rename_i ds j hj
        obtain ⟨bs, e7, rfl⟩ := Option.map_eq_some_iff.mp e6
        obtain ⟨l', xs', el, hq', hR⟩ := hO1.lst
        cases el
        rw [blsOf_eq e7] at hR
        rw [hR.unbls] at hq'
        rw [hj] at q1
        refine ⟨l, bs, j, rfl, by rw [q1.bl], hq', ?_⟩
        obtain ⟨y2, z⟩ := ResN.res x1.rel Grow.refl (ResN.old (K := X.K) (bx := bx1) (W := Wf F _ σ T) (Rep.mint (i := (bs.count j : Nat))))
        exact k _ bx1 H1 (x1.trans y2) z
      · cases e6
    · cases e3
theorem se_idxB (i : Nat) (ha : SE X a ma) (hN : X.N[i]? = some x := by rfl) (hv : Vis X.env.scope x := by first | exact Or.inl rfl | exact Or.inr (Or.inl rfl) | exact Or.inr (Or.inr rfl)) (hd : (x == ("__debug__" : Str)) = false := by decide)
    (hcd : (x == ("__classdict__" : Str)) = false := by decide)
    (hbase : attributeBase (.Name x p) "index" X.env (eval (.Name x p) X.env) = eval (.Name x p) X.env := by rfl)
    (hfew : ((backTo cpos (starEach [a] X.env)).all (fun x => !x.1) && (backToKw cpos (keywordEach [] X.env)).all (fun x => x.1.isSome)
      && decide ([a].length + ([] : List Keyword).length + (if ([] : List Keyword).isEmpty then 0 else 1) < 30)) = true := by rfl)
    (hline : (apos.endLine == cpos.line) = true := by rfl) (hs : starEach [a] X.env = (false, eval a X.env) :: starEach [] X.env := by rfl) (hplain : (backTo cpos (starEach [] X.env)).any (·.1) = false := by rfl) :
    SE X (.Call (.Attribute (.Name x p) "index" apos) [a] [] cpos) (lookLM idxBD i ma) :=
  PE.weak (pe_bm PySem.F.plainAttrs_list PySem.F.slot_list_index PySem.F.type_list_index mt_index (pe_var hN hv hd hcd) (pa_cons ha.d pa_nil hs) hbase hfew hline hs hplain) fun σ H Q h => by
    obtain ⟨F, T, bx, s, r, t, s', e, k⟩ := h
    obtain ⟨d0, s1, e1, f1⟩ := bind_ok e
    obtain ⟨rfl, b0, h0⟩ := peek_ok e1
    obtain ⟨_, s2, e2, f2⟩ := bind_ok f1
    obtain ⟨e3, rfl⟩ := lift_ok e2
    obtain ⟨w, s3, e4, f3⟩ := bind_ok f2
    obtain ⟨d, s4, e5, f4⟩ := bind_ok f3
    obtain ⟨rfl, b1, h1⟩ := peek_ok e5
    obtain ⟨e6, rfl⟩ := lift_ok f4
    obtain ⟨v, hσ, hO⟩ := r.peek h0
    unfold isLD at e3
    split at e3
    · obtain ⟨l, xs, rfl, hq, _⟩ := hO.lst
      refine ⟨.ref l, hσ, .inl ⟨rfl, xs, hq⟩, F, T, bx, _, r, w.1, _, by rw [bind_run, e4]; rfl, fun u bx1 H1 x1 q1 => ?_⟩
      obtain ⟨v', hσ', hO1⟩ := x1.rel.peek h1
      rw [hσ] at hσ'; cases hσ'
      unfold idxBD at e6
      split at e6
      · rename_i ds j hj
        obtain ⟨bs, e7, e8⟩ := Option.bind_eq_some_iff.mp e6
        split at e8
        · rename_i hc
          cases e8
          obtain ⟨l', xs', el, hq', hR⟩ := hO1.lst
          cases el
          rw [blsOf_eq e7] at hR
          rw [hR.unbls] at hq'
          rw [hj] at q1
          have hm : j ∈ bs := by simpa using hc
          have hlt : bs.idxOf j < bs.length := List.idxOf_lt_length_iff.mpr hm
          refine ⟨l, bs.map V.bl, .bl j, bs.idxOf j, .bl bs[bs.idxOf j], rfl, by rw [q1.bl], hq', rfl, flatB bs, by rw [List.getElem?_map, List.getElem?_eq_getElem hlt]; rfl, ?_, fun m z' hmj hz => ?_, ?_⟩
          · rw [List.getElem_idxOf]; show (j == j) = true; simp
          · rw [List.getElem?_map] at hz
            obtain ⟨b, hb, rfl⟩ := Option.map_eq_some_iff.mp hz
            show (b == j) = false
            have h9 := List.not_of_lt_findIdx (show m < bs.findIdx (· == j) from hmj)
            obtain ⟨hm2, hb2⟩ := List.getElem?_eq_some_iff.mp hb
            subst hb2
            simpa using h9
          · obtain ⟨y2, z⟩ := ResN.res x1.rel Grow.refl (ResN.old (K := X.K) (bx := bx1) (W := Wf F _ σ T) (Rep.mint (i := (bs.idxOf j : Nat))))
            exact k _ bx1 H1 (x1.trans y2) z
        · cases e8
      · cases e6
    · cases e3
end
end L2.Pd
set_option maxHeartbeats 4000000
namespace L2.Pd
open PySem PySem.Spec PyProof.Rows
abbrev aeBase : List Value := [.type "ArithmeticError", .type "Exception", .type "BaseException", .type "object"]
def aexB (K : PySem.W.Frag) (c : Str) : Bool := PySem.W.excIn K (He.ga K c) aeBase "ArithmeticError.__new__" && (PySem.W.keepIn K (.ref (He.ga K c)) && (decide (PySem.W.subIn K (.ref (He.ga K c)) (.type "BaseException") = some true) && decide (PySem.W.typeIn K (.ref (He.ga K c)) = some (.type "type"))))
theorem aexB_ok {K : PySem.W.Frag} {c : Str} (h : aexB K c = true) : PySem.W.excIn K (He.ga K c) aeBase "ArithmeticError.__new__" = true ∧ PySem.W.keepIn K (.ref (He.ga K c)) = true ∧ PySem.W.subIn K (.ref (He.ga K c)) (.type "BaseException") = some true ∧ PySem.W.typeIn K (.ref (He.ga K c)) = some (.type "type") := by
  unfold aexB at h
  simp only [Bool.and_eq_true, decide_eq_true_eq] at h
  exact h
end L2.Pd
set_option maxHeartbeats 4000000
namespace L2.Pd.K23
open PySem PySem.Spec PyProof.Rows L2 L2.Pd
def top (i : Nat) : Stmt := PySem.Challenge.pw_endlessinn_k23_rule_texts.main.body.getD i (.Pass ⟨0, 0, 0, 0⟩)
abbrev s__law_take : Stmt := top 20
abbrev s__law_classes : Stmt := top 21
abbrev s__law_single_rule : Stmt := top 22
abbrev s__law_bounded : Stmt := top 23
abbrev s__law_any_rule : Stmt := top 24
abbrev s__law_drawn_rule : Stmt := top 25
abbrev s__law_words : Stmt := top 26
abbrev s_is_number : Stmt := top 5
abbrev s_is_part : Stmt := top 8
abbrev s_check_rule : Stmt := top 10
abbrev s_show_rule : Stmt := top 14
abbrev s_figures_of : Stmt := top 13
abbrev s_read_part : Stmt := top 15
abbrev s_is_rule : Stmt := top 9
abbrev s_read_rule : Stmt := top 16
abbrev s__law_right : Stmt := top 27
abbrev s__law_purse : Stmt := top 19
abbrev s__law_cell : Stmt := top 18
abbrev s_law : Stmt := top 28
noncomputable def b__law_take : M Fl := (seqM (bsetM (var 0) (cst (.int 2)) (bin addD (ixM (var 0) (cst (.int 2))) (cst (.int 1))))
    (seqM (setv 2 (ixM (var 0) (cst (.int 0))))
    (seqM (bsetM (var 0) (cst (.int 0)) (bin modD (bin addD (bin addD (bin mulD (var 2) (bin addD (bin modD (var 2) (cst (.int 50021))) (cst (.int 20011)))) (bin mulD (cst (.int 60013)) (ixM (var 0) (cst (.int 2))))) (cst (.int 5))) (cst (.int 1000000021))))
    (seqM (ifM (tru (bin gtD (ixM (var 0) (cst (.int 1))) (cst (.int 0)))) (seqM (setv 3 (bin modD (ixM (var 0) (cst (.int 1))) (var 1)))
    (seqM (bsetM (var 0) (cst (.int 1)) (bin divD (ixM (var 0) (cst (.int 1))) (var 1)))
    (retV 3))) (pure .nx))
    (ret (bin modD (bin divD (ixM (var 0) (cst (.int 0))) (cst (.int 32))) (var 1)))))))
noncomputable def f__law_take : Fn := mkFn 2 4 b__law_take
noncomputable def b__law_classes : M Fl := (seqM (setv 2 (lstM (consA (tupM (consA (cst (.int 0)) (consA (cst (.int 1)) nilA))) nilA)))
    (seqM (forM' (rngI1 (consA (var 1) nilA)) (gnm 3) (seqM (asg (gtp 2 (gcons (gnm 4) (gcons (gnm 5) gnil))) (tupM (consA (callF f__law_take [] (consA (var 0) (consA (lenP 2) nilA))) (consA (bin addD (cst (.int 2)) (callF f__law_take [] (consA (var 0) (consA (cst (.int 2)) nilA)))) nilA))))
    (seqM (asg (gtp 2 (gcons (gnm 6) (gcons (gnm 7) gnil))) (ixP 2 (var 4)))
    (ifM (tru (bin eqD (bin modD (cst (.int 24)) (bin mulD (var 7) (var 5))) (cst (.int 0)))) (seqM (setv 8 (lcM (rngI1 (consA (var 5) nilA)) (gnm 9) noT (tupM (consA (bin addD (var 6) (bin mulD (var 7) (var 9))) (consA (bin mulD (var 7) (var 5)) nilA))) [9]))
    (setv 2 (bin addD (bin addD (slP 2 noPart (part (var 4))) (slP 2 (part (bin addD (var 4) (cst (.int 1)))) noPart)) (var 8)))) (pure .nx)))))
    (retV 2)))
noncomputable def f__law_classes : Fn := mkFn 2 10 b__law_classes
noncomputable def b__law_single_rule : M Fl := (seqM (setv 2 (bin addD (cst (.int 1)) (callF f__law_take [] (consA (var 0) (consA (var 1) nilA)))))
    (seqM (setv 3 (callF f__law_classes [] (consA (var 0) (consA (cst (.int 12)) nilA))))
    (seqM (whileM (tru (bin ltD (lenP 3) (var 2))) (seqM (asg (gtp 2 (gcons (gnm 4) (gcons (gnm 5) gnil))) (popAtM 3 (cst (.int 0))))
    (setv 3 (bin addD (var 3) (lstM (consA (tupM (consA (var 4) (consA (bin mulD (cst (.int 2)) (var 5)) nilA))) (consA (tupM (consA (bin addD (var 4) (var 5)) (consA (bin mulD (cst (.int 2)) (var 5)) nilA))) nilA)))))))
    (seqM (setv 6 (lstM nilA))
    (seqM (forM' (rngI1 (consA (var 2) nilA)) (gnm 7) (seqM (asg (gtp 2 (gcons (gnm 4) (gcons (gnm 5) gnil))) (popAtM 3 (callF f__law_take [] (consA (var 0) (consA (lenP 3) nilA)))))
    (drp (appM 6 (tupM (consA (var 5) (consA (bin addD (var 4) (bin mulD (var 5) (callF f__law_take [] (consA (var 0) (consA (cst (.int 3)) nilA))))) nilA)))))))
    (ret (callP tupleD (consA (var 6) nilA))))))))
noncomputable def f__law_single_rule : Fn := mkFn 2 8 b__law_single_rule
noncomputable def b__law_bounded : M Fl := (seqM (setv 2 (bin addD (cst (.int 1)) (callF f__law_take [] (consA (var 0) (consA (var 1) nilA)))))
    (seqM (par2 3 4 (lrg1 (var 2)) (lstM nilA))
    (seqM (forM' (rngI1 (consA (var 2) nilA)) (gnm 5) (drp (appM 4 (tupM (consA (var 2) (consA (bin addD (popAtM 3 (callF f__law_take [] (consA (var 0) (consA (lenP 3) nilA)))) (bin mulD (var 2) (callF f__law_take [] (consA (var 0) (consA (cst (.int 3)) nilA))))) nilA))))))
    (ret (callP tupleD (consA (var 4) nilA))))))
noncomputable def f__law_bounded : Fn := mkFn 2 6 b__law_bounded
noncomputable def b__law_any_rule : M Fl := (seqM (setv 2 (lstM nilA))
    (seqM (forM' (rngI1 (consA (bin addD (cst (.int 1)) (callF f__law_take [] (consA (var 0) (consA (var 1) nilA)))) nilA)) (gnm 3) (seqM (setv 4 (tupM (consA (bin idxD (lstM (consA (cst (.int 1)) (consA (cst (.int 2)) (consA (cst (.int 3)) (consA (cst (.int 4)) (consA (cst (.int 6)) (consA (cst (.int 12)) (consA (cst (.int 7)) nilA)))))))) (callF f__law_take [] (consA (var 0) (consA (cst (.int 7)) nilA)))) (consA (callF f__law_take [] (consA (var 0) (consA (cst (.int 30)) nilA))) nilA))))
    (drp (appM 2 (bin idxD (lstM (consA (var 4) (consA (var 4) (consA (var 4) (consA (cst .non) nilA))))) (callF f__law_take [] (consA (var 0) (consA (cst (.int 4)) nilA))))))))
    (ret (callP tupleD (consA (var 2) nilA)))))
noncomputable def f__law_any_rule : Fn := mkFn 2 5 b__law_any_rule
noncomputable def b__law_drawn_rule : M Fl := (seqM (setv 1 (callF f__law_take [] (consA (var 0) (consA (cst (.int 4)) nilA))))
    (seqM (ifM (tru (cmpL eqD 1 (cst (.int 0)))) (ret (callF f__law_single_rule [] (consA (var 0) (consA (cst (.int 12)) nilA)))) (pure .nx))
    (seqM (ifM (tru (cmpL eqD 1 (cst (.int 1)))) (ret (callF f__law_bounded [] (consA (var 0) (consA (cst (.int 12)) nilA)))) (pure .nx))
    (seqM (ifM (tru (cmpL eqD 1 (cst (.int 2)))) (ret (callF f__law_any_rule [] (consA (var 0) (consA (cst (.int 12)) nilA)))) (pure .nx))
    (seqM (setv 2 (lstM nilA))
    (seqM (forM' (rngI1 (consA (bin addD (cst (.int 1)) (callF f__law_take [] (consA (var 0) (consA (cst (.int 12)) nilA)))) nilA)) (gnm 3) (seqM (setv 4 (bin idxD (lstM (consA (cst (.int 1)) (consA (cst (.int 9)) (consA (bin addD (bin powD (cst (.int 10)) (cst (.int 30))) (cst (.int 7))) (consA (bin addD (bin powD (cst (.int 10)) (cst (.int 59))) (cst (.int 1))) nilA))))) (callF f__law_take [] (consA (var 0) (consA (cst (.int 4)) nilA)))))
    (seqM (setv 5 (bin idxD (lstM (consA (cst (.int 0)) (consA (cst (.int 8)) (consA (bin powD (cst (.int 10)) (cst (.int 40))) (consA (bin addD (bin powD (cst (.int 10)) (cst (.int 59))) (cst (.int 9))) nilA))))) (callF f__law_take [] (consA (var 0) (consA (cst (.int 4)) nilA)))))
    (drp (appM 2 (bin idxD (lstM (consA (tupM (consA (var 4) (consA (var 5) nilA))) (consA (tupM (consA (var 4) (consA (var 5) nilA))) (consA (cst .non) nilA)))) (callF f__law_take [] (consA (var 0) (consA (cst (.int 3)) nilA)))))))))
    (ret (callP tupleD (consA (var 2) nilA)))))))))
noncomputable def f__law_drawn_rule : Fn := mkFn 1 6 b__law_drawn_rule
noncomputable def b__law_words : M Fl := (seqM (setv 1 (cst (.str "")))
    (seqM (forM' (seqI (var 0)) (gnm 2) (seqM (setv 3 (ife (tru (isN (var 2))) (cst (.str "-")) (bin addD (bin addD (callP strD (consA (ixP 2 (cst (.int 0))) nilA)) (cst (.str " "))) (callP strD (consA (ixP 2 (cst (.int 1))) nilA)))))
    (setv 1 (ife (tru (cmpL eqD 1 (cst (.str "")))) (var 3) (bin addD (bin addD (var 1) (cst (.str "; "))) (var 3))))))
    (retV 1)))
noncomputable def f__law_words : Fn := mkFn 1 4 b__law_words
noncomputable def b_is_number : M Fl := (seqM (ifM (orB (notB (tru (callP isiD (consA (var 0) (consA (cst (.ty "int")) nilA))))) (orB (tru (callP isiD (consA (var 0) (consA (cst (.ty "bool")) nilA)))) (tru (bin ltD (var 0) (var 1))))) (ret (cst (.bl false))) (pure .nx))
    (ret (orV (isN (var 2)) (bin leD (var 0) (var 2)))))
noncomputable def f_is_number : Fn := mkFn 3 3 b_is_number
noncomputable def b_is_part : M Fl := (seqM (ifM (tru (isN (var 0))) (ret (cst (.bl true))) (pure .nx))
    (seqM (ifM (orB (notB (tru (callP isiD (consA (var 0) (consA (cst (.ty "tuple")) nilA))))) (tru (bin neD (lenP 0) (cst (.int 2))))) (ret (cst (.bl false))) (pure .nx))
    (ret (andV (callK f_is_number 1 1 [(.int 0), .non] [.at_ 0, .kw 0, .df 1] (consA (ixP 0 (cst (.int 0))) nilA) (consA (cst (.int 1)) nilA)) (callF f_is_number [(.int 0), .non] (consA (ixP 0 (cst (.int 1))) nilA))))))
noncomputable def f_is_part : Fn := mkFn 1 1 b_is_part
noncomputable def b_check_rule : M Fl := (seqM (ifM (orB (notB (tru (callP isiD (consA (var 0) (consA (cst (.ty "tuple")) nilA))))) (notB (tru (chain leD leD (cst (.int 1)) (lenP 0) (cst (.int 12)))))) never (pure .nx))
    (forM' (enumI (consA (var 0) nilA)) (gtp 2 (gcons (gnm 2) (gcons (gnm 3) gnil))) (ifM (orB (notB (tru (callF f_is_part [] (consA (var 3) nilA)))) (andB (tru (var 1)) (tru (isN (var 3))))) never (pure .nx))))
noncomputable def f_check_rule : Fn := mkFn 2 4 b_check_rule
noncomputable def b_show_rule : M Fl := (seqM (drp (callF f_check_rule [(.bl false)] (consA (var 0) nilA)))
    (ret (joinM (cst (.str "; ")) (lcM (seqI (var 0)) (gnm 1) noT (ife (tru (isN (var 1))) (cst (.str "-")) (fs3M " " (ixP 1 (cst (.int 0))) (ixP 1 (cst (.int 1))))) [1]))))
noncomputable def f_show_rule : Fn := mkFn 1 2 b_show_rule
noncomputable def b_figures_of : M Fl := (seqM (ifM (orB (tru (cmpL eqD 0 (cst (.str "")))) (notB (tru (callP allD (consA (lcM (strI (var 0)) (gnm 1) noT (bin inSgD (var 1) (cst (.str "0123456789"))) [1]) nilA))))) (ret (cst .non)) (pure .nx))
    (ret (ife (andB (tru (bin eqD (ixP 0 (cst (.int 0))) (cst (.str "0")))) (tru (cmpL neD 0 (cst (.str "0"))))) (cst .non) (callP intTD (consA (var 0) nilA)))))
noncomputable def f_figures_of : Fn := mkFn 1 2 b_figures_of
noncomputable def b_read_part : M Fl := (seqM (ifM (tru (cmpL eqD 0 (cst (.str "-")))) (ret (lstM (consA (cst .non) nilA))) (pure .nx))
    (seqM (setv 1 (lcM (seqI (splitM (var 0) (cst (.str " ")))) (gnm 2) noT (callF f_figures_of [] (consA (var 2) nilA)) [2]))
    (ret (ife (andB (tru (bin eqD (lenP 1) (cst (.int 2)))) (tru (cmpR notInD (cst .non) 1))) (lstM (consA (callP tupleD (consA (var 1) nilA)) nilA)) (lstM nilA)))))
noncomputable def f_read_part : Fn := mkFn 1 3 b_read_part
noncomputable def b_is_rule : M Fl := (ret (andV (callP isiD (consA (var 0) (consA (cst (.ty "tuple")) nilA))) (andV (chain leD leD (cst (.int 1)) (lenP 0) (cst (.int 12))) (callP allD (consA (lcM (seqI (var 0)) (gnm 1) noT (callF f_is_part [] (consA (var 1) nilA)) [1]) nilA)))))
noncomputable def f_is_rule : Fn := mkFn 1 2 b_is_rule
noncomputable def b_read_rule : M Fl := (seqM (ifM (notB (tru (callP isiD (consA (var 0) (consA (cst (.ty "str")) nilA))))) never (pure .nx))
    (seqM (setv 1 (lcM (seqI (splitM (var 0) (cst (.str "; ")))) (gnm 3) noT (callF f_read_part [] (consA (var 3) nilA)) [3]))
    (seqM (setv 2 (callP tupleD (consA (lc2M (seqI (var 1)) (gnm 4) noT (seqI (var 4)) (gnm 3) noT (var 3) [4, 3] [3]) nilA)))
    (seqM (ifM (orB (tru (cmpR inD (lstM nilA) 1)) (notB (tru (callF f_is_rule [] (consA (var 2) nilA))))) never (pure .nx))
    (retV 2)))))
noncomputable def f_read_rule : Fn := mkFn 1 5 b_read_rule
noncomputable def b__law_right : M Fl := (seqM (setv 1 (bin powD (cst (.int 10)) (cst (.int 59))))
    (seqM (setv 2 (tupM (consA (tupM (consA (bin addD (var 1) (callF f__law_take [] (consA (var 0) (consA (cst (.int 99)) nilA)))) (consA (var 1) nilA))) (consA (cst .non) (consA (tupM (consA (cst (.int 1)) (consA (cst (.int 0)) nilA))) nilA)))))
    (seqM (setv 3 (bin addD (lcM (rngI1 (consA (cst (.int 4)) nilA)) (gnm 6) noT (callF f__law_drawn_rule [] (consA (var 0) nilA)) [6]) (lstM (consA (tupM (consA (cst .non) nilA)) (consA (bin repD (tupM (consA (cst .non) nilA)) (cst (.int 12))) (consA (tupM (consA (tupM (consA (cst (.int 1)) (consA (cst (.int 0)) nilA))) nilA)) (consA (var 2) nilA)))))))
    (seqM (forM' (seqI (bin addD (var 3) (slP 3 noPart (part (cst (.int 1)))))) (gnm 4) (seqM (setv 5 (callF f__law_words [] (consA (var 4) nilA)))
    (seqM (ifM (tru (bin neD (lstM (consA (callF f_show_rule [] (consA (var 4) nilA)) (consA (callK f_show_rule 0 1 [] [.kw 0] nilA (consA (var 4) nilA)) nilA))) (lstM (consA (var 5) (consA (var 5) nilA))))) (ret (cst (.bl false))) (pure .nx))
    (ifM (tru (bin neD (callP reprD (consA (lstM (consA (callF f_read_rule [] (consA (var 5) nilA)) (consA (callK f_read_rule 0 1 [] [.kw 0] nilA (consA (var 5) nilA)) nilA))) nilA)) (callP reprD (consA (lstM (consA (var 4) (consA (var 4) nilA))) nilA)))) (ret (cst (.bl false))) (pure .nx)))))
    (ret (cst (.bl true)))))))
noncomputable def f__law_right : Fn := mkFn 1 7 b__law_right
noncomputable def b__law_purse : M Fl := (seqM (setv 1 (cst (.int 0)))
    (seqM (ifM (orB (tru (bin ltD (var 0) (cst (.int 0)))) (tru (bin geD (var 0) (bin powD (cst (.int 10)) (cst (.int 18)))))) (setv 1 (callP absD (consA (var 0) nilA))) (pure .nx))
    (ret (boxM (consA (bin modD (var 0) (cst (.int 1000000021))) (consA (var 1) (consA (cst (.int 0)) nilA)))))))
noncomputable def f__law_purse : Fn := mkFn 1 2 b__law_purse
noncomputable def b__law_cell : M Fl := (seqM (ifM (tru (bin ltD (var 1) (lenP 0))) (ret (ixP 0 (var 1))) (pure .nx))
    (seqM (setv 2 (bin modD (bin mulD (cst (.int 70001)) (bin addD (bin addD (bin mulD (var 1) (var 1)) (bin mulD (cst (.int 9)) (var 1))) (cst (.int 13)))) (cst (.int 1000000021))))
    (seqM (forM' (seqI (slP 0 noPart (part (cst (.int 3))))) (gnm 3) (setv 2 (bin modD (bin addD (bin mulD (var 2) (cst (.int 40009))) (var 3)) (cst (.int 1000000021)))))
    (retV 2))))
noncomputable def f__law_cell : Fn := mkFn 2 4 b__law_cell
noncomputable def b_law : M Fl := (ret (callP allD (consA (lcM (rngI1 (consA (callP max2D (consA (cst (.int 2)) (consA (callP min2D (consA (cst (.int 6)) (consA (lenP 0) nilA))) nilA))) nilA)) (gnm 1) noT (callF f__law_right [] (consA (callF f__law_purse [] (consA (callF f__law_cell [] (consA (var 0) (consA (var 1) nilA))) nilA)) nilA)) [1]) nilA)))
noncomputable def f_law : Fn := mkFn 1 2 b_law
structure Tx (K : PySem.W.Frag) (mg : Str → Option Value) : Prop where
  g_abs : mg "abs" = none
  g_all : mg "all" = none
  g_bool : mg "bool" = none
  g_enumerate : mg "enumerate" = none
  g_int : mg "int" = none
  g_isinstance : mg "isinstance" = none
  g_len : mg "len" = none
  g_list : mg "list" = none
  g_max : mg "max" = none
  g_min : mg "min" = none
  g_range : mg "range" = none
  g_repr : mg "repr" = none
  g_str : mg "str" = none
  g_tuple : mg "tuple" = none
  j_FIGURES : ∃ t, mg "FIGURES" = some (.str "0123456789" t)
  j_MOST_PARTS : ∃ t, mg "MOST_PARTS" = some (.int 12 t)
  d__law_take : ∃ (f : Addr) (fd : FuncData), FunD K "_law_take" "_law_take" (defArgs s__law_take) (defBody s__law_take) (defScope s__law_take) [] [] f fd ∧ mg "_law_take" = some (.ref f)
  d__law_classes : ∃ (f : Addr) (fd : FuncData), FunD K "_law_classes" "_law_classes" (defArgs s__law_classes) (defBody s__law_classes) (defScope s__law_classes) [] [] f fd ∧ mg "_law_classes" = some (.ref f)
  d__law_single_rule : ∃ (f : Addr) (fd : FuncData), FunD K "_law_single_rule" "_law_single_rule" (defArgs s__law_single_rule) (defBody s__law_single_rule) (defScope s__law_single_rule) [] [] f fd ∧ mg "_law_single_rule" = some (.ref f)
  d__law_bounded : ∃ (f : Addr) (fd : FuncData), FunD K "_law_bounded" "_law_bounded" (defArgs s__law_bounded) (defBody s__law_bounded) (defScope s__law_bounded) [] [] f fd ∧ mg "_law_bounded" = some (.ref f)
  d__law_any_rule : ∃ (f : Addr) (fd : FuncData), FunD K "_law_any_rule" "_law_any_rule" (defArgs s__law_any_rule) (defBody s__law_any_rule) (defScope s__law_any_rule) [] [] f fd ∧ mg "_law_any_rule" = some (.ref f)
  d__law_drawn_rule : ∃ (f : Addr) (fd : FuncData), FunD K "_law_drawn_rule" "_law_drawn_rule" (defArgs s__law_drawn_rule) (defBody s__law_drawn_rule) (defScope s__law_drawn_rule) [] [] f fd ∧ mg "_law_drawn_rule" = some (.ref f)
  d__law_words : ∃ (f : Addr) (fd : FuncData), FunD K "_law_words" "_law_words" (defArgs s__law_words) (defBody s__law_words) (defScope s__law_words) [] [] f fd ∧ mg "_law_words" = some (.ref f)
  d_is_number : ∃ (f : Addr) (fd : FuncData), FunD K "is_number" "is_number" (defArgs s_is_number) (defBody s_is_number) (defScope s_is_number) [.int 0, .non] [] f fd ∧ mg "is_number" = some (.ref f)
  d_is_part : ∃ (f : Addr) (fd : FuncData), FunD K "is_part" "is_part" (defArgs s_is_part) (defBody s_is_part) (defScope s_is_part) [] [] f fd ∧ mg "is_part" = some (.ref f)
  d_check_rule : ∃ (f : Addr) (fd : FuncData), FunD K "check_rule" "check_rule" (defArgs s_check_rule) (defBody s_check_rule) (defScope s_check_rule) [.bl false] [] f fd ∧ mg "check_rule" = some (.ref f)
  d_show_rule : ∃ (f : Addr) (fd : FuncData), FunD K "show_rule" "show_rule" (defArgs s_show_rule) (defBody s_show_rule) (defScope s_show_rule) [] [] f fd ∧ mg "show_rule" = some (.ref f)
  d_figures_of : ∃ (f : Addr) (fd : FuncData), FunD K "figures_of" "figures_of" (defArgs s_figures_of) (defBody s_figures_of) (defScope s_figures_of) [] [] f fd ∧ mg "figures_of" = some (.ref f)
  d_read_part : ∃ (f : Addr) (fd : FuncData), FunD K "read_part" "read_part" (defArgs s_read_part) (defBody s_read_part) (defScope s_read_part) [] [] f fd ∧ mg "read_part" = some (.ref f)
  d_is_rule : ∃ (f : Addr) (fd : FuncData), FunD K "is_rule" "is_rule" (defArgs s_is_rule) (defBody s_is_rule) (defScope s_is_rule) [] [] f fd ∧ mg "is_rule" = some (.ref f)
  d_read_rule : ∃ (f : Addr) (fd : FuncData), FunD K "read_rule" "read_rule" (defArgs s_read_rule) (defBody s_read_rule) (defScope s_read_rule) [] [] f fd ∧ mg "read_rule" = some (.ref f)
  d__law_right : ∃ (f : Addr) (fd : FuncData), FunD K "_law_right" "_law_right" (defArgs s__law_right) (defBody s__law_right) (defScope s__law_right) [] [] f fd ∧ mg "_law_right" = some (.ref f)
  d__law_purse : ∃ (f : Addr) (fd : FuncData), FunD K "_law_purse" "_law_purse" (defArgs s__law_purse) (defBody s__law_purse) (defScope s__law_purse) [] [] f fd ∧ mg "_law_purse" = some (.ref f)
  d__law_cell : ∃ (f : Addr) (fd : FuncData), FunD K "_law_cell" "_law_cell" (defArgs s__law_cell) (defBody s__law_cell) (defScope s__law_cell) [] [] f fd ∧ mg "_law_cell" = some (.ref f)
  d_law : ∃ (f : Addr) (fd : FuncData), FunD K "law" "law" (defArgs s_law) (defBody s_law) (defScope s_law) [] [] f fd ∧ mg "law" = some (.ref f)
section
variable {P : Program} {w : World} {K : PySem.W.Frag} {mg : Str → Option Value} {base : Heap}
theorem sc__law_take : FnScope ["_law_purse_here", "_law_many", "_law_state", "_law_taken"] ["_law_purse_here", "_law_many"] (defScope s__law_take) := ⟨rfl, rfl, rfl, by decide +kernel, rfl, by decide +kernel, by decide +kernel⟩
theorem ok__law_take (T : Tx K mg) : ∃ (f : Addr) (fd : FuncData), FunD K "_law_take" "_law_take" (defArgs s__law_take) (defBody s__law_take) (defScope s__law_take) [] [] f fd ∧ mg "_law_take" = some (.ref f) ∧ FnOkG P w K mg base CX0 1 f fd ["_law_purse_here", "_law_many"] (spF K 2 f__law_take) := by
  obtain ⟨f, fd, F, hm⟩ := T.d__law_take
  have SC := sc__law_take
  have z := fnok (P := P) (w := w) (mg := mg) (base := base) (k := 0) (m := b__law_take) F SC (fun cdv A outer s H E ecd hgd hr => (sss_cons (ss_bset (se_var 0) se_int (se_bin op_addD (se_ixM (se_var 0) se_int) se_int))
    (sss_cons (ss_set SC.nd rfl (by first | exact Or.inl rfl | exact Or.inr rfl) (se_ixM (se_var 0) se_int))
    (sss_cons (ss_bset (se_var 0) se_int (se_bin op_modD (se_bin op_addD (se_bin op_addD (se_bin op_mulD (se_var 2) (se_bin op_addD (se_bin op_modD (se_var 2) se_int) se_int)) (se_bin op_mulD se_int (se_ixM (se_var 0) se_int))) se_int) se_int))
    (sss_cons (ss_if (sb_cmp op_gtD blF_gt (se_ixM (se_var 0) se_int) se_int (by first | exact nomark _ | with_unfolding_all rfl)) (sss_cons (ss_set SC.nd rfl (by first | exact Or.inl rfl | exact Or.inr rfl) (se_bin op_modD (se_ixM (se_var 0) se_int) (se_var 1)))
    (sss_cons (ss_bset (se_var 0) se_int (se_bin op_divD (se_ixM (se_var 0) se_int) (se_var 1)))
    (sss_one (ss_retV 3)))) sss_nil)
    (sss_one (ss_ret (se_bin op_modD (se_bin op_divD (se_ixM (se_var 0) se_int) se_int) (se_var 1)))))))))
  exact ⟨f, fd, F, hm, z⟩
theorem c__law_take_2 (T : Tx K mg) : DefC P w K mg base "_law_take" 1 2 f__law_take [] := let ⟨f, fd, F, hm, G⟩ := ok__law_take T; defC_all F hm G mkFn_ar fun _ _ _ _ _ _ us hl => match us, hl with | [_, _], _ => rfl
theorem sc__law_classes : FnScope ["_law_purse_here", "_law_many", "_law_found", "_law_turn", "_law_at", "_law_cut", "_law_rest", "_law_step", "_law_parts", "_law_k"] ["_law_purse_here", "_law_many"] (defScope s__law_classes) := ⟨rfl, rfl, rfl, by decide +kernel, rfl, by decide +kernel, by decide +kernel⟩
theorem ok__law_classes (T : Tx K mg) : ∃ (f : Addr) (fd : FuncData), FunD K "_law_classes" "_law_classes" (defArgs s__law_classes) (defBody s__law_classes) (defScope s__law_classes) [] [] f fd ∧ mg "_law_classes" = some (.ref f) ∧ FnOkG P w K mg base CX0 2 f fd ["_law_purse_here", "_law_many"] (spF K 2 f__law_classes) := by
  obtain ⟨f, fd, F, hm⟩ := T.d__law_classes
  have SC := sc__law_classes
  have z := fnok (P := P) (w := w) (mg := mg) (base := base) (k := 1) (m := b__law_classes) F SC (fun cdv A outer s H E ecd hgd hr => (sss_cons (ss_set SC.nd rfl (by first | exact Or.inl rfl | exact Or.inr rfl) (se_lst (sa_cons (se_tup (sa_cons se_int (sa_cons se_int sa_nil))) sa_nil)))
    (sss_cons (ss_for PassesOwn.never rfl (si_range1 (by rfl) T.g_range (sa_cons (se_var 1) sa_nil)) (sg_nm SC.nd rfl (by first | exact Or.inl rfl | exact Or.inr rfl)) (sss_cons (ss_asg (se_tup (sa_cons (se_call (c__law_take_2 T) hgd (hr.mono (by decide)) (by rfl) (sa_cons (se_var 0) (sa_cons (se_lenP 2 (by rfl) T.g_len) sa_nil))) (sa_cons (se_bin op_addD se_int (se_call (c__law_take_2 T) hgd (hr.mono (by decide)) (by rfl) (sa_cons (se_var 0) (sa_cons se_int sa_nil)))) sa_nil))) (sg_tp rfl (sgs_cons (sg_nm SC.nd rfl (by first | exact Or.inl rfl | exact Or.inr rfl)) (sgs_cons (sg_nm SC.nd rfl (by first | exact Or.inl rfl | exact Or.inr rfl)) sgs_nil))))
    (sss_cons (ss_asg (se_ixP 2 (se_var 4)) (sg_tp rfl (sgs_cons (sg_nm SC.nd rfl (by first | exact Or.inl rfl | exact Or.inr rfl)) (sgs_cons (sg_nm SC.nd rfl (by first | exact Or.inl rfl | exact Or.inr rfl)) sgs_nil))))
    (sss_one (ss_if (sb_cmp (op_eqDd hr.units) blF_eq (se_bin op_modD se_int (se_bin op_mulD (se_var 7) (se_var 5))) se_int (by first | exact nomark _ | with_unfolding_all rfl)) (sss_cons (ss_setLc (own := [("_law_k", 9)]) rfl SC.nd rfl rfl (si_range1 (by rfl) T.g_range (sa_cons (se_var 5) sa_nil)) (blkOk_by (N := ["_law_purse_here", "_law_many", "_law_found", "_law_turn", "_law_at", "_law_cut", "_law_rest", "_law_step", "_law_parts", "_law_k"]) (sc := defScope s__law_classes) (own := [("_law_k", 9)]) (by decide +kernel)) (by decide) (fun _ _ _ _ _ => (sg_nm SC.nd rfl (by first | exact Or.inl rfl | exact Or.inr rfl))) (fun _ _ _ _ _ => (se_tup (sa_cons (se_bin op_addD (se_var 6) (se_bin op_mulD (se_var 7) (se_var 9))) (sa_cons (se_bin op_mulD (se_var 7) (se_var 5)) sa_nil)))) (sw_true rfl rfl rfl (by decide +kernel)))
    (sss_one (ss_set SC.nd rfl (by first | exact Or.inl rfl | exact Or.inr rfl) (se_bin op_addD (se_bin op_addD (se_slP 2 so_none (so_some (se_var 4))) (se_slP 2 (so_some (se_bin op_addD (se_var 4) se_int)) so_none)) (se_var 8))))) sss_nil)))))
    (sss_one (ss_retV 2)))))
  exact ⟨f, fd, F, hm, z⟩
theorem c__law_classes_2 (T : Tx K mg) : DefC P w K mg base "_law_classes" 2 2 f__law_classes [] := let ⟨f, fd, F, hm, G⟩ := ok__law_classes T; defC_all F hm G mkFn_ar fun _ _ _ _ _ _ us hl => match us, hl with | [_, _], _ => rfl
theorem sc__law_single_rule : FnScope ["_law_purse_here", "_law_many", "_law_size", "_law_rooms", "_law_spot", "_law_stride", "_law_parts", "_law_rest"] ["_law_purse_here", "_law_many"] (defScope s__law_single_rule) := ⟨rfl, rfl, rfl, by decide +kernel, rfl, by decide +kernel, by decide +kernel⟩
theorem ok__law_single_rule (T : Tx K mg) : ∃ (f : Addr) (fd : FuncData), FunD K "_law_single_rule" "_law_single_rule" (defArgs s__law_single_rule) (defBody s__law_single_rule) (defScope s__law_single_rule) [] [] f fd ∧ mg "_law_single_rule" = some (.ref f) ∧ FnOkG P w K mg base CX0 3 f fd ["_law_purse_here", "_law_many"] (spF K 2 f__law_single_rule) := by
  obtain ⟨f, fd, F, hm⟩ := T.d__law_single_rule
  have SC := sc__law_single_rule
  have z := fnok (P := P) (w := w) (mg := mg) (base := base) (k := 2) (m := b__law_single_rule) F SC (fun cdv A outer s H E ecd hgd hr => (sss_cons (ss_set SC.nd rfl (by first | exact Or.inl rfl | exact Or.inr rfl) (se_bin op_addD se_int (se_call (c__law_take_2 T) hgd (hr.mono (by decide)) (by rfl) (sa_cons (se_var 0) (sa_cons (se_var 1) sa_nil)))))
    (sss_cons (ss_set SC.nd rfl (by first | exact Or.inl rfl | exact Or.inr rfl) (se_call (c__law_classes_2 T) hgd (hr.mono (by decide)) (by rfl) (sa_cons (se_var 0) (sa_cons se_int sa_nil))))
    (sss_cons (ss_while PassesOwn.never (sb_cmp op_ltD blF_lt (se_lenP 3 (by rfl) T.g_len) (se_var 2) (by first | exact nomark _ | with_unfolding_all rfl)) (sss_cons (ss_asg (se_popAt 3 se_int) (sg_tp rfl (sgs_cons (sg_nm SC.nd rfl (by first | exact Or.inl rfl | exact Or.inr rfl)) (sgs_cons (sg_nm SC.nd rfl (by first | exact Or.inl rfl | exact Or.inr rfl)) sgs_nil))))
    (sss_one (ss_set SC.nd rfl (by first | exact Or.inl rfl | exact Or.inr rfl) (se_bin op_addD (se_var 3) (se_lst (sa_cons (se_tup (sa_cons (se_var 4) (sa_cons (se_bin op_mulD se_int (se_var 5)) sa_nil))) (sa_cons (se_tup (sa_cons (se_bin op_addD (se_var 4) (se_var 5)) (sa_cons (se_bin op_mulD se_int (se_var 5)) sa_nil))) sa_nil))))))))
    (sss_cons (ss_set SC.nd rfl (by first | exact Or.inl rfl | exact Or.inr rfl) (se_lst sa_nil))
    (sss_cons (ss_for PassesOwn.never rfl (si_range1 (by rfl) T.g_range (sa_cons (se_var 2) sa_nil)) (sg_nm SC.nd rfl (by first | exact Or.inl rfl | exact Or.inr rfl)) (sss_cons (ss_asg (se_popAt 3 (se_call (c__law_take_2 T) hgd (hr.mono (by decide)) (by rfl) (sa_cons (se_var 0) (sa_cons (se_lenP 3 (by rfl) T.g_len) sa_nil)))) (sg_tp rfl (sgs_cons (sg_nm SC.nd rfl (by first | exact Or.inl rfl | exact Or.inr rfl)) (sgs_cons (sg_nm SC.nd rfl (by first | exact Or.inl rfl | exact Or.inr rfl)) sgs_nil))))
    (sss_one (ss_drp (se_app 6 (se_tup (sa_cons (se_var 5) (sa_cons (se_bin op_addD (se_var 4) (se_bin op_mulD (se_var 5) (se_call (c__law_take_2 T) hgd (hr.mono (by decide)) (by rfl) (sa_cons (se_var 0) (sa_cons se_int sa_nil))))) sa_nil))))))))
    (sss_one (ss_ret (se_callTy call_tupleD (by rfl) T.g_tuple (by rfl) (sa_cons (se_var 6) sa_nil))))))))))
  exact ⟨f, fd, F, hm, z⟩
theorem c__law_single_rule_2 (T : Tx K mg) : DefC P w K mg base "_law_single_rule" 3 2 f__law_single_rule [] := let ⟨f, fd, F, hm, G⟩ := ok__law_single_rule T; defC_all F hm G mkFn_ar fun _ _ _ _ _ _ us hl => match us, hl with | [_, _], _ => rfl
theorem sc__law_bounded : FnScope ["_law_purse_here", "_law_many", "_law_size", "_law_left", "_law_parts", "_law_rest"] ["_law_purse_here", "_law_many"] (defScope s__law_bounded) := ⟨rfl, rfl, rfl, by decide +kernel, rfl, by decide +kernel, by decide +kernel⟩
theorem ok__law_bounded (T : Tx K mg) : ∃ (f : Addr) (fd : FuncData), FunD K "_law_bounded" "_law_bounded" (defArgs s__law_bounded) (defBody s__law_bounded) (defScope s__law_bounded) [] [] f fd ∧ mg "_law_bounded" = some (.ref f) ∧ FnOkG P w K mg base CX0 2 f fd ["_law_purse_here", "_law_many"] (spF K 2 f__law_bounded) := by
  obtain ⟨f, fd, F, hm⟩ := T.d__law_bounded
  have SC := sc__law_bounded
  have z := fnok (P := P) (w := w) (mg := mg) (base := base) (k := 1) (m := b__law_bounded) F SC (fun cdv A outer s H E ecd hgd hr => (sss_cons (ss_set SC.nd rfl (by first | exact Or.inl rfl | exact Or.inr rfl) (se_bin op_addD se_int (se_call (c__law_take_2 T) hgd (hr.mono (by decide)) (by rfl) (sa_cons (se_var 0) (sa_cons (se_var 1) sa_nil)))))
    (sss_cons (ss_par rfl SC.nd rfl rfl (by decide) rfl rfl (se_listRange1 rfl (by rfl) T.g_list (by rfl) T.g_range (se_var 2)) (se_lst sa_nil) rfl)
    (sss_cons (ss_for PassesOwn.never rfl (si_range1 (by rfl) T.g_range (sa_cons (se_var 2) sa_nil)) (sg_nm SC.nd rfl (by first | exact Or.inl rfl | exact Or.inr rfl)) (sss_one (ss_drp (se_app 4 (se_tup (sa_cons (se_var 2) (sa_cons (se_bin op_addD (se_popAt 3 (se_call (c__law_take_2 T) hgd (hr.mono (by decide)) (by rfl) (sa_cons (se_var 0) (sa_cons (se_lenP 3 (by rfl) T.g_len) sa_nil)))) (se_bin op_mulD (se_var 2) (se_call (c__law_take_2 T) hgd (hr.mono (by decide)) (by rfl) (sa_cons (se_var 0) (sa_cons se_int sa_nil))))) sa_nil)))))))
    (sss_one (ss_ret (se_callTy call_tupleD (by rfl) T.g_tuple (by rfl) (sa_cons (se_var 4) sa_nil))))))))
  exact ⟨f, fd, F, hm, z⟩
theorem c__law_bounded_2 (T : Tx K mg) : DefC P w K mg base "_law_bounded" 2 2 f__law_bounded [] := let ⟨f, fd, F, hm, G⟩ := ok__law_bounded T; defC_all F hm G mkFn_ar fun _ _ _ _ _ _ us hl => match us, hl with | [_, _], _ => rfl
theorem sc__law_any_rule : FnScope ["_law_purse_here", "_law_many", "_law_parts", "_law_rest", "_law_part"] ["_law_purse_here", "_law_many"] (defScope s__law_any_rule) := ⟨rfl, rfl, rfl, by decide +kernel, rfl, by decide +kernel, by decide +kernel⟩
theorem ok__law_any_rule (T : Tx K mg) : ∃ (f : Addr) (fd : FuncData), FunD K "_law_any_rule" "_law_any_rule" (defArgs s__law_any_rule) (defBody s__law_any_rule) (defScope s__law_any_rule) [] [] f fd ∧ mg "_law_any_rule" = some (.ref f) ∧ FnOkG P w K mg base CX0 2 f fd ["_law_purse_here", "_law_many"] (spF K 2 f__law_any_rule) := by
  obtain ⟨f, fd, F, hm⟩ := T.d__law_any_rule
  have SC := sc__law_any_rule
  have z := fnok (P := P) (w := w) (mg := mg) (base := base) (k := 1) (m := b__law_any_rule) F SC (fun cdv A outer s H E ecd hgd hr => (sss_cons (ss_set SC.nd rfl (by first | exact Or.inl rfl | exact Or.inr rfl) (se_lst sa_nil))
    (sss_cons (ss_for PassesOwn.never rfl (si_range1 (by rfl) T.g_range (sa_cons (se_bin op_addD se_int (se_call (c__law_take_2 T) hgd (hr.mono (by decide)) (by rfl) (sa_cons (se_var 0) (sa_cons (se_var 1) sa_nil)))) sa_nil)) (sg_nm SC.nd rfl (by first | exact Or.inl rfl | exact Or.inr rfl)) (sss_cons (ss_set SC.nd rfl (by first | exact Or.inl rfl | exact Or.inr rfl) (se_tup (sa_cons (se_ix (se_lst (sa_cons se_int (sa_cons se_int (sa_cons se_int (sa_cons se_int (sa_cons se_int (sa_cons se_int (sa_cons se_int sa_nil)))))))) (se_call (c__law_take_2 T) hgd (hr.mono (by decide)) (by rfl) (sa_cons (se_var 0) (sa_cons se_int sa_nil)))) (sa_cons (se_call (c__law_take_2 T) hgd (hr.mono (by decide)) (by rfl) (sa_cons (se_var 0) (sa_cons se_int sa_nil))) sa_nil))))
    (sss_one (ss_drp (se_app 2 (se_ix (se_lst (sa_cons (se_var 4) (sa_cons (se_var 4) (sa_cons (se_var 4) (sa_cons se_non sa_nil))))) (se_call (c__law_take_2 T) hgd (hr.mono (by decide)) (by rfl) (sa_cons (se_var 0) (sa_cons se_int sa_nil)))))))))
    (sss_one (ss_ret (se_callTy call_tupleD (by rfl) T.g_tuple (by rfl) (sa_cons (se_var 2) sa_nil)))))))
  exact ⟨f, fd, F, hm, z⟩
theorem c__law_any_rule_2 (T : Tx K mg) : DefC P w K mg base "_law_any_rule" 2 2 f__law_any_rule [] := let ⟨f, fd, F, hm, G⟩ := ok__law_any_rule T; defC_all F hm G mkFn_ar fun _ _ _ _ _ _ us hl => match us, hl with | [_, _], _ => rfl
theorem sc__law_drawn_rule : FnScope ["_law_purse_here", "_law_way", "_law_parts", "_law_rest", "_law_lift", "_law_begin"] ["_law_purse_here"] (defScope s__law_drawn_rule) := ⟨rfl, rfl, rfl, by decide +kernel, rfl, by decide +kernel, by decide +kernel⟩
theorem ok__law_drawn_rule (T : Tx K mg) : ∃ (f : Addr) (fd : FuncData), FunD K "_law_drawn_rule" "_law_drawn_rule" (defArgs s__law_drawn_rule) (defBody s__law_drawn_rule) (defScope s__law_drawn_rule) [] [] f fd ∧ mg "_law_drawn_rule" = some (.ref f) ∧ FnOkG P w K mg base CX0 4 f fd ["_law_purse_here"] (spF K 1 f__law_drawn_rule) := by
  obtain ⟨f, fd, F, hm⟩ := T.d__law_drawn_rule
  have SC := sc__law_drawn_rule
  have z := fnok (P := P) (w := w) (mg := mg) (base := base) (k := 3) (m := b__law_drawn_rule) F SC (fun cdv A outer s H E ecd hgd hr => (sss_cons (ss_set SC.nd rfl (by first | exact Or.inl rfl | exact Or.inr rfl) (se_call (c__law_take_2 T) hgd (hr.mono (by decide)) (by rfl) (sa_cons (se_var 0) (sa_cons se_int sa_nil))))
    (sss_cons (ss_if (sb_cmpL 1 (op_eqO hr.units) blF_eq se_int (by first | exact nomark _ | with_unfolding_all rfl)) (sss_one (ss_ret (se_call (c__law_single_rule_2 T) hgd (hr.mono (by decide)) (by rfl) (sa_cons (se_var 0) (sa_cons se_int sa_nil))))) sss_nil)
    (sss_cons (ss_if (sb_cmpL 1 (op_eqO hr.units) blF_eq se_int (by first | exact nomark _ | with_unfolding_all rfl)) (sss_one (ss_ret (se_call (c__law_bounded_2 T) hgd (hr.mono (by decide)) (by rfl) (sa_cons (se_var 0) (sa_cons se_int sa_nil))))) sss_nil)
    (sss_cons (ss_if (sb_cmpL 1 (op_eqO hr.units) blF_eq se_int (by first | exact nomark _ | with_unfolding_all rfl)) (sss_one (ss_ret (se_call (c__law_any_rule_2 T) hgd (hr.mono (by decide)) (by rfl) (sa_cons (se_var 0) (sa_cons se_int sa_nil))))) sss_nil)
    (sss_cons (ss_set SC.nd rfl (by first | exact Or.inl rfl | exact Or.inr rfl) (se_lst sa_nil))
    (sss_cons (ss_for PassesOwn.never rfl (si_range1 (by rfl) T.g_range (sa_cons (se_bin op_addD se_int (se_call (c__law_take_2 T) hgd (hr.mono (by decide)) (by rfl) (sa_cons (se_var 0) (sa_cons se_int sa_nil)))) sa_nil)) (sg_nm SC.nd rfl (by first | exact Or.inl rfl | exact Or.inr rfl)) (sss_cons (ss_set SC.nd rfl (by first | exact Or.inl rfl | exact Or.inr rfl) (se_ix (se_lst (sa_cons se_int (sa_cons se_int (sa_cons (se_bin op_addD (se_bin op_powD se_int se_int) se_int) (sa_cons (se_bin op_addD (se_bin op_powD se_int se_int) se_int) sa_nil))))) (se_call (c__law_take_2 T) hgd (hr.mono (by decide)) (by rfl) (sa_cons (se_var 0) (sa_cons se_int sa_nil)))))
    (sss_cons (ss_set SC.nd rfl (by first | exact Or.inl rfl | exact Or.inr rfl) (se_ix (se_lst (sa_cons se_int (sa_cons se_int (sa_cons (se_bin op_powD se_int se_int) (sa_cons (se_bin op_addD (se_bin op_powD se_int se_int) se_int) sa_nil))))) (se_call (c__law_take_2 T) hgd (hr.mono (by decide)) (by rfl) (sa_cons (se_var 0) (sa_cons se_int sa_nil)))))
    (sss_one (ss_drp (se_app 2 (se_ix (se_lst (sa_cons (se_tup (sa_cons (se_var 4) (sa_cons (se_var 5) sa_nil))) (sa_cons (se_tup (sa_cons (se_var 4) (sa_cons (se_var 5) sa_nil))) (sa_cons se_non sa_nil)))) (se_call (c__law_take_2 T) hgd (hr.mono (by decide)) (by rfl) (sa_cons (se_var 0) (sa_cons se_int sa_nil))))))))))
    (sss_one (ss_ret (se_callTy call_tupleD (by rfl) T.g_tuple (by rfl) (sa_cons (se_var 2) sa_nil)))))))))))
  exact ⟨f, fd, F, hm, z⟩
theorem c__law_drawn_rule_1 (T : Tx K mg) : DefC P w K mg base "_law_drawn_rule" 4 1 f__law_drawn_rule [] := let ⟨f, fd, F, hm, G⟩ := ok__law_drawn_rule T; defC_all F hm G mkFn_ar fun _ _ _ _ _ _ us hl => match us, hl with | [_], _ => rfl
theorem sc__law_words : FnScope ["_law_parts", "_law_found", "_law_part", "_law_piece"] ["_law_parts"] (defScope s__law_words) := ⟨rfl, rfl, rfl, by decide +kernel, rfl, by decide +kernel, by decide +kernel⟩
theorem ok__law_words (T : Tx K mg) : ∃ (f : Addr) (fd : FuncData), FunD K "_law_words" "_law_words" (defArgs s__law_words) (defBody s__law_words) (defScope s__law_words) [] [] f fd ∧ mg "_law_words" = some (.ref f) ∧ FnOkG P w K mg base CX0 1 f fd ["_law_parts"] (spF K 1 f__law_words) := by
  obtain ⟨f, fd, F, hm⟩ := T.d__law_words
  have SC := sc__law_words
  have z := fnok (P := P) (w := w) (mg := mg) (base := base) (k := 0) (m := b__law_words) F SC (fun cdv A outer s H E ecd hgd hr => (sss_cons (ss_set SC.nd rfl (by first | exact Or.inl rfl | exact Or.inr rfl) se_str)
    (sss_cons (ss_for PassesOwn.never rfl (si_seq (se_var 0)) (sg_nm SC.nd rfl (by first | exact Or.inl rfl | exact Or.inr rfl)) (sss_cons (ss_set SC.nd rfl (by first | exact Or.inl rfl | exact Or.inr rfl) (se_ife (sb_isN (se_var 2)) se_str (se_bin op_addD (se_bin op_addD (se_callTy call_strD (by rfl) T.g_str (by rfl) (sa_cons (se_ixP 2 se_int) sa_nil)) se_str) (se_callTy call_strD (by rfl) T.g_str (by rfl) (sa_cons (se_ixP 2 se_int) sa_nil)))))
    (sss_one (ss_set SC.nd rfl (by first | exact Or.inl rfl | exact Or.inr rfl) (se_ife (sb_cmpL 1 (op_eqO hr.units) blF_eq se_str (by first | exact nomark _ | with_unfolding_all rfl)) (se_var 3) (se_bin op_addD (se_bin op_addD (se_var 1) se_str) (se_var 3)))))))
    (sss_one (ss_retV 1)))))
  exact ⟨f, fd, F, hm, z⟩
theorem c__law_words_1 (T : Tx K mg) : DefC P w K mg base "_law_words" 1 1 f__law_words [] := let ⟨f, fd, F, hm, G⟩ := ok__law_words T; defC_all F hm G mkFn_ar fun _ _ _ _ _ _ us hl => match us, hl with | [_], _ => rfl
theorem sc_is_number : FnScope ["thing", "least", "most"] ["thing", "least", "most"] (defScope s_is_number) := ⟨rfl, rfl, rfl, by decide +kernel, rfl, by decide +kernel, by decide +kernel⟩
theorem ok_is_number (T : Tx K mg) : ∃ (f : Addr) (fd : FuncData), FunD K "is_number" "is_number" (defArgs s_is_number) (defBody s_is_number) (defScope s_is_number) [.int 0, .non] [] f fd ∧ mg "is_number" = some (.ref f) ∧ FnOkG P w K mg base CX0 1 f fd ["thing", "least", "most"] (spF K 3 f_is_number) := by
  obtain ⟨f, fd, F, hm⟩ := T.d_is_number
  have SC := sc_is_number
  have z := fnok (P := P) (w := w) (mg := mg) (base := base) (k := 0) (m := b_is_number) F SC (fun cdv A outer s H E ecd hgd hr => (sss_cons (ss_if (SW.sb (sw_or (sb_not (sb_tru (se_callB (call_isiD) (by rfl) T.g_isinstance (by rfl) (sa_cons (se_var 0) (sa_cons (se_ty (by rfl) T.g_int (by rfl)) sa_nil))))) (sw_or (sb_tru (se_callB (call_isiD) (by rfl) T.g_isinstance (by rfl) (sa_cons (se_var 0) (sa_cons (se_ty (by rfl) T.g_bool (by rfl)) sa_nil)))) (sw_or1 (sb_cmp op_ltD blF_lt (se_var 0) (se_var 1) (by first | exact nomark _ | with_unfolding_all rfl)))))) (sss_one (ss_ret se_bl)) sss_nil)
    (sss_one (ss_ret (se_or (se_isN (se_var 2)) (se_one (se_cmp op_leD (se_var 0) (se_var 2) (by first | exact nomark _ | with_unfolding_all rfl))))))))
  exact ⟨f, fd, F, hm, z⟩
theorem ck_is_number_1_least (T : Tx K mg) : DefK P w K mg base "is_number" 1 3 f_is_number 1 ["least"] [(.int 0), .non] [.at_ 0, .kw 0, .df 1] := let ⟨f, fd, F, hm, G⟩ := ok_is_number T; defK_of F hm G rfl (kb_some F 1 ["least"] _ (by simp) fun _ _ _ _ _ _ _ us its ws hl h1 h2 => match us, hl, its, h1, ws, h2 with | [_], _, [_, _], _, [_], _ => ⟨_, rfl, rfl⟩) (fun _ _ _ => (.cons Rep.mint (.cons Rep.mnon .nil))) rfl rfl
theorem c_is_number_1 (T : Tx K mg) : DefC P w K mg base "is_number" 1 3 f_is_number [(.int 0), .non] := let ⟨f, fd, F, hm, G⟩ := ok_is_number T; defC_dfl F hm G mkFn_ar 1 0 (by simp) rfl (fun _ _ _ => (.cons Rep.mint (.cons Rep.mnon .nil))) fun _ _ _ _ _ _ _ us its hl h2 => match us, hl, its, h2 with | [_], _, [_, _], _ => ⟨_, rfl, rfl⟩
theorem sc_is_part : FnScope ["thing"] ["thing"] (defScope s_is_part) := ⟨rfl, rfl, rfl, by decide +kernel, rfl, by decide +kernel, by decide +kernel⟩
theorem ok_is_part (T : Tx K mg) : ∃ (f : Addr) (fd : FuncData), FunD K "is_part" "is_part" (defArgs s_is_part) (defBody s_is_part) (defScope s_is_part) [] [] f fd ∧ mg "is_part" = some (.ref f) ∧ FnOkG P w K mg base CX0 2 f fd ["thing"] (spF K 1 f_is_part) := by
  obtain ⟨f, fd, F, hm⟩ := T.d_is_part
  have SC := sc_is_part
  have z := fnok (P := P) (w := w) (mg := mg) (base := base) (k := 1) (m := b_is_part) F SC (fun cdv A outer s H E ecd hgd hr => (sss_cons (ss_if (sb_isN (se_var 0)) (sss_one (ss_ret se_bl)) sss_nil)
    (sss_cons (ss_if (SW.sb (sw_or (sb_not (sb_tru (se_callB (call_isiD) (by rfl) T.g_isinstance (by rfl) (sa_cons (se_var 0) (sa_cons (se_ty (by rfl) T.g_tuple (by rfl)) sa_nil))))) (sw_or1 (sb_cmp (op_neDd hr.units) blF_ne (se_lenP 0 (by rfl) T.g_len) se_int (by first | exact nomark _ | with_unfolding_all rfl))))) (sss_one (ss_ret se_bl)) sss_nil)
    (sss_one (ss_ret (se_and (se_callK (ck_is_number_1_least T) hgd (hr.mono (by decide)) (by rfl) (sa_cons (se_ixP 0 se_int) sa_nil) (sk_cons se_int sk_nil)) (se_one (se_call (c_is_number_1 T) hgd (hr.mono (by decide)) (by rfl) (sa_cons (se_ixP 0 se_int) sa_nil)))))))))
  exact ⟨f, fd, F, hm, z⟩
theorem c_is_part_1 (T : Tx K mg) : DefC P w K mg base "is_part" 2 1 f_is_part [] := let ⟨f, fd, F, hm, G⟩ := ok_is_part T; defC_all F hm G mkFn_ar fun _ _ _ _ _ _ us hl => match us, hl with | [_], _ => rfl
theorem sc_check_rule : FnScope ["thing", "whole", "place", "part"] ["thing", "whole"] (defScope s_check_rule) := ⟨rfl, rfl, rfl, by decide +kernel, rfl, by decide +kernel, by decide +kernel⟩
theorem ok_check_rule (T : Tx K mg) : ∃ (f : Addr) (fd : FuncData), FunD K "check_rule" "check_rule" (defArgs s_check_rule) (defBody s_check_rule) (defScope s_check_rule) [.bl false] [] f fd ∧ mg "check_rule" = some (.ref f) ∧ FnOkG P w K mg base CX0 3 f fd ["thing", "whole"] (spF K 2 f_check_rule) := by
  obtain ⟨f, fd, F, hm⟩ := T.d_check_rule
  obtain ⟨t_MOST_PARTS, i_MOST_PARTS⟩ := T.j_MOST_PARTS
  have SC := sc_check_rule
  have z := fnok (P := P) (w := w) (mg := mg) (base := base) (k := 2) (m := b_check_rule) F SC (fun cdv A outer s H E ecd hgd hr => (sss_cons (ss_if (SW.sb (sw_or (sb_not (sb_tru (se_callB (call_isiD) (by rfl) T.g_isinstance (by rfl) (sa_cons (se_var 0) (sa_cons (se_ty (by rfl) T.g_tuple (by rfl)) sa_nil))))) (sw_or1 (sb_not (sb_chain op_leD op_leD blF_le se_int (se_lenP 0 (by rfl) T.g_len) (se_gint (by rfl) i_MOST_PARTS)))))) (sss_one ss_never) sss_nil)
    (sss_one (ss_for PassesOwn.never rfl (si_enum (by rfl) T.g_enumerate (sa_cons (se_var 0) sa_nil)) (sg_tp rfl (sgs_cons (sg_nm SC.nd rfl (by first | exact Or.inl rfl | exact Or.inr rfl)) (sgs_cons (sg_nm SC.nd rfl (by first | exact Or.inl rfl | exact Or.inr rfl)) sgs_nil))) (sss_one (ss_if (SW.sb (sw_or (sb_not (sb_tru (se_call (c_is_part_1 T) hgd (hr.mono (by decide)) (by rfl) (sa_cons (se_var 3) sa_nil)))) (sw_or1 (SW.sb (sw_and (sb_tru (se_var 1)) (sw_and1 (sb_isN (se_var 3)))))))) (sss_one ss_never) sss_nil))))))
  exact ⟨f, fd, F, hm, z⟩
theorem c_check_rule_1 (T : Tx K mg) : DefC P w K mg base "check_rule" 3 2 f_check_rule [(.bl false)] := let ⟨f, fd, F, hm, G⟩ := ok_check_rule T; defC_dfl F hm G mkFn_ar 1 0 (by simp) rfl (fun _ _ _ => (.cons Rep.mbl .nil)) fun _ _ _ _ _ _ _ us its hl h2 => match us, hl, its, h2 with | [_], _, [_], _ => ⟨_, rfl, rfl⟩
theorem sc_show_rule : FnScope ["rule", "part"] ["rule"] (defScope s_show_rule) := ⟨rfl, rfl, rfl, by decide +kernel, rfl, by decide +kernel, by decide +kernel⟩
theorem ok_show_rule (T : Tx K mg) : ∃ (f : Addr) (fd : FuncData), FunD K "show_rule" "show_rule" (defArgs s_show_rule) (defBody s_show_rule) (defScope s_show_rule) [] [] f fd ∧ mg "show_rule" = some (.ref f) ∧ FnOkG P w K mg base CX0 4 f fd ["rule"] (spF K 1 f_show_rule) := by
  obtain ⟨f, fd, F, hm⟩ := T.d_show_rule
  have SC := sc_show_rule
  have z := fnok (P := P) (w := w) (mg := mg) (base := base) (k := 3) (m := b_show_rule) F SC (fun cdv A outer s H E ecd hgd hr => (sss_cons (ss_drp (se_call (c_check_rule_1 T) hgd (hr.mono (by decide)) (by rfl) (sa_cons (se_var 0) sa_nil)))
    (sss_one (ss_ret (se_join se_str (se_lc (own := [("part", 1)]) rfl SC.nd (si_seq (se_var 0)) (blkOk_by (N := ["rule", "part"]) (sc := defScope s_show_rule) (own := [("part", 1)]) (by decide +kernel)) (by decide) (fun _ _ _ _ _ => (sg_nm SC.nd rfl (by first | exact Or.inl rfl | exact Or.inr rfl))) (fun _ _ _ _ _ => (se_ife (sb_isN (se_var 1)) se_str (se_fs3 (se_ixP 1 se_int) (se_ixP 1 se_int))))))))))
  exact ⟨f, fd, F, hm, z⟩
theorem ck_show_rule_0_rule (T : Tx K mg) : DefK P w K mg base "show_rule" 4 1 f_show_rule 0 ["rule"] [] [.kw 0] := let ⟨f, fd, F, hm, G⟩ := ok_show_rule T; defK_of F hm G rfl (kb_none F 0 ["rule"] _ fun _ _ _ _ _ _ us ws hl h2 => match us, hl, ws, h2 with | [], _, [_], _ => rfl) (fun _ _ _ => .nil) rfl rfl
theorem c_show_rule_1 (T : Tx K mg) : DefC P w K mg base "show_rule" 4 1 f_show_rule [] := let ⟨f, fd, F, hm, G⟩ := ok_show_rule T; defC_all F hm G mkFn_ar fun _ _ _ _ _ _ us hl => match us, hl with | [_], _ => rfl
theorem sc_figures_of : FnScope ["word", "sign"] ["word"] (defScope s_figures_of) := ⟨rfl, rfl, rfl, by decide +kernel, rfl, by decide +kernel, by decide +kernel⟩
theorem ok_figures_of (T : Tx K mg) : ∃ (f : Addr) (fd : FuncData), FunD K "figures_of" "figures_of" (defArgs s_figures_of) (defBody s_figures_of) (defScope s_figures_of) [] [] f fd ∧ mg "figures_of" = some (.ref f) ∧ FnOkG P w K mg base CX0 1 f fd ["word"] (spF K 1 f_figures_of) := by
  obtain ⟨f, fd, F, hm⟩ := T.d_figures_of
  obtain ⟨t_FIGURES, i_FIGURES⟩ := T.j_FIGURES
  have SC := sc_figures_of
  have z := fnok (P := P) (w := w) (mg := mg) (base := base) (k := 0) (m := b_figures_of) F SC (fun cdv A outer s H E ecd hgd hr => (sss_cons (ss_if (SW.sb (sw_or (sb_cmpL 0 (op_eqO hr.units) blF_eq se_str (by first | exact nomark _ | with_unfolding_all rfl)) (sw_or1 (sb_not (sb_tru (se_callB (call_allD rfl) (by rfl) T.g_all (by rfl) (sa_cons (se_lc (own := [("sign", 1)]) rfl SC.nd (si_str (se_var 0)) (blkOk_by (N := ["word", "sign"]) (sc := defScope s_figures_of) (own := [("sign", 1)]) (by decide +kernel)) (by decide) (fun _ _ _ _ _ => (sg_nm SC.nd rfl (by first | exact Or.inl rfl | exact Or.inr rfl))) (fun _ _ _ _ _ => (se_cmp op_inSg (se_var 1) (se_gstr (by rfl) i_FIGURES) (by first | exact nomark _ | with_unfolding_all rfl)))) sa_nil))))))) (sss_one (ss_ret se_non)) sss_nil)
    (sss_one (ss_ret (se_ife (SW.sb (sw_and (sb_cmp (op_eqDd hr.units) blF_eq (se_ixP 0 se_int) se_str (by first | exact nomark _ | with_unfolding_all rfl)) (sw_and1 (sb_cmpL 0 (op_neO hr.units) blF_ne se_str (by first | exact nomark _ | with_unfolding_all rfl))))) se_non (se_callTy call_intTD (by rfl) T.g_int (by rfl) (sa_cons (se_var 0) sa_nil)))))))
  exact ⟨f, fd, F, hm, z⟩
theorem c_figures_of_1 (T : Tx K mg) : DefC P w K mg base "figures_of" 1 1 f_figures_of [] := let ⟨f, fd, F, hm, G⟩ := ok_figures_of T; defC_all F hm G mkFn_ar fun _ _ _ _ _ _ us hl => match us, hl with | [_], _ => rfl
theorem sc_read_part : FnScope ["text", "numbers", "word"] ["text"] (defScope s_read_part) := ⟨rfl, rfl, rfl, by decide +kernel, rfl, by decide +kernel, by decide +kernel⟩
theorem ok_read_part (T : Tx K mg) : ∃ (f : Addr) (fd : FuncData), FunD K "read_part" "read_part" (defArgs s_read_part) (defBody s_read_part) (defScope s_read_part) [] [] f fd ∧ mg "read_part" = some (.ref f) ∧ FnOkG P w K mg base CX0 2 f fd ["text"] (spF K 1 f_read_part) := by
  obtain ⟨f, fd, F, hm⟩ := T.d_read_part
  have SC := sc_read_part
  have z := fnok (P := P) (w := w) (mg := mg) (base := base) (k := 1) (m := b_read_part) F SC (fun cdv A outer s H E ecd hgd hr => (sss_cons (ss_if (sb_cmpL 0 (op_eqO hr.units) blF_eq se_str (by first | exact nomark _ | with_unfolding_all rfl)) (sss_one (ss_ret (se_lst (sa_cons se_non sa_nil)))) sss_nil)
    (sss_cons (ss_setLc (own := [("word", 2)]) rfl SC.nd rfl rfl (si_seq (se_split (se_var 0) se_str)) (blkOk_by (N := ["text", "numbers", "word"]) (sc := defScope s_read_part) (own := [("word", 2)]) (by decide +kernel)) (by decide) (fun _ _ _ _ _ => (sg_nm SC.nd rfl (by first | exact Or.inl rfl | exact Or.inr rfl))) (fun _ _ _ _ _ => (se_call (c_figures_of_1 T) hgd (hr.mono (by decide)) (by rfl) (sa_cons (se_var 2) sa_nil))) (sw_true rfl rfl rfl (by decide +kernel)))
    (sss_one (ss_ret (se_ife (SW.sb (sw_and (sb_cmp (op_eqDd hr.units) blF_eq (se_lenP 1 (by rfl) T.g_len) se_int (by first | exact nomark _ | with_unfolding_all rfl)) (sw_and1 (sb_cmpR 1 (op_notInO hr.un65) blF_notIn se_non (by first | exact nomark _ | with_unfolding_all rfl))))) (se_lst (sa_cons (se_callTy call_tupleD (by rfl) T.g_tuple (by rfl) (sa_cons (se_var 1) sa_nil)) sa_nil)) (se_lst sa_nil)))))))
  exact ⟨f, fd, F, hm, z⟩
theorem c_read_part_1 (T : Tx K mg) : DefC P w K mg base "read_part" 2 1 f_read_part [] := let ⟨f, fd, F, hm, G⟩ := ok_read_part T; defC_all F hm G mkFn_ar fun _ _ _ _ _ _ us hl => match us, hl with | [_], _ => rfl
theorem sc_is_rule : FnScope ["thing", "part"] ["thing"] (defScope s_is_rule) := ⟨rfl, rfl, rfl, by decide +kernel, rfl, by decide +kernel, by decide +kernel⟩
theorem ok_is_rule (T : Tx K mg) : ∃ (f : Addr) (fd : FuncData), FunD K "is_rule" "is_rule" (defArgs s_is_rule) (defBody s_is_rule) (defScope s_is_rule) [] [] f fd ∧ mg "is_rule" = some (.ref f) ∧ FnOkG P w K mg base CX0 3 f fd ["thing"] (spF K 1 f_is_rule) := by
  obtain ⟨f, fd, F, hm⟩ := T.d_is_rule
  obtain ⟨t_MOST_PARTS, i_MOST_PARTS⟩ := T.j_MOST_PARTS
  have SC := sc_is_rule
  have z := fnok (P := P) (w := w) (mg := mg) (base := base) (k := 2) (m := b_is_rule) F SC (fun cdv A outer s H E ecd hgd hr => (sss_one (ss_ret (se_and (se_callB (call_isiD) (by rfl) T.g_isinstance (by rfl) (sa_cons (se_var 0) (sa_cons (se_ty (by rfl) T.g_tuple (by rfl)) sa_nil))) (se_and (se_chain op_leD op_leD se_int (se_lenP 0 (by rfl) T.g_len) (se_gint (by rfl) i_MOST_PARTS)) (se_one (se_callB (call_allD rfl) (by rfl) T.g_all (by rfl) (sa_cons (se_lc (own := [("part", 1)]) rfl SC.nd (si_seq (se_var 0)) (blkOk_by (N := ["thing", "part"]) (sc := defScope s_is_rule) (own := [("part", 1)]) (by decide +kernel)) (by decide) (fun _ _ _ _ _ => (sg_nm SC.nd rfl (by first | exact Or.inl rfl | exact Or.inr rfl))) (fun _ _ _ _ _ => (se_call (c_is_part_1 T) hgd (hr.mono (by decide)) (by rfl) (sa_cons (se_var 1) sa_nil)))) sa_nil))))))))
  exact ⟨f, fd, F, hm, z⟩
theorem c_is_rule_1 (T : Tx K mg) : DefC P w K mg base "is_rule" 3 1 f_is_rule [] := let ⟨f, fd, F, hm, G⟩ := ok_is_rule T; defC_all F hm G mkFn_ar fun _ _ _ _ _ _ us hl => match us, hl with | [_], _ => rfl
theorem sc_read_rule : FnScope ["text", "parts", "rule", "part", "found"] ["text"] (defScope s_read_rule) := ⟨rfl, rfl, rfl, by decide +kernel, rfl, by decide +kernel, by decide +kernel⟩
theorem ok_read_rule (T : Tx K mg) : ∃ (f : Addr) (fd : FuncData), FunD K "read_rule" "read_rule" (defArgs s_read_rule) (defBody s_read_rule) (defScope s_read_rule) [] [] f fd ∧ mg "read_rule" = some (.ref f) ∧ FnOkG P w K mg base CX0 4 f fd ["text"] (spF K 1 f_read_rule) := by
  obtain ⟨f, fd, F, hm⟩ := T.d_read_rule
  have SC := sc_read_rule
  have z := fnok (P := P) (w := w) (mg := mg) (base := base) (k := 3) (m := b_read_rule) F SC (fun cdv A outer s H E ecd hgd hr => (sss_cons (ss_if (sb_not (sb_tru (se_callB (call_isiD) (by rfl) T.g_isinstance (by rfl) (sa_cons (se_var 0) (sa_cons (se_ty (by rfl) T.g_str (by rfl)) sa_nil))))) (sss_one ss_never) sss_nil)
    (sss_cons (ss_setLc (own := [("part", 3)]) rfl SC.nd rfl rfl (si_seq (se_split (se_var 0) se_str)) (blkOk_by (N := ["text", "parts", "rule", "part", "found"]) (sc := defScope s_read_rule) (own := [("part", 3)]) (by decide +kernel)) (by decide) (fun _ _ _ _ _ => (sg_nm SC.nd rfl (by first | exact Or.inl rfl | exact Or.inr rfl))) (fun _ _ _ _ _ => (se_call (c_read_part_1 T) hgd (hr.mono (by decide)) (by rfl) (sa_cons (se_var 3) sa_nil))) (sw_true rfl rfl rfl (by decide +kernel)))
    (sss_cons (ss_set SC.nd rfl (by first | exact Or.inl rfl | exact Or.inr rfl) (se_callTy call_tupleD (by rfl) T.g_tuple (by rfl) (sa_cons (se_lc2 (own := [("found", 4), ("part", 3)]) (vs1 := [3]) rfl SC.nd (si_seq (se_var 1)) (blkOk_by (N := ["text", "parts", "rule", "part", "found"]) (sc := defScope s_read_rule) (own := [("found", 4), ("part", 3)]) (by decide +kernel)) (by decide) (by decide) (by decide) (fun _ _ _ _ _ => (sg_nm SC.nd rfl (by first | exact Or.inl rfl | exact Or.inr rfl))) (fun _ _ _ _ _ => (si_seq (se_var 4))) (fun _ _ _ _ _ => (sg_nm SC.nd rfl (by first | exact Or.inl rfl | exact Or.inr rfl))) (fun _ _ _ _ _ => (se_var 3))) sa_nil)))
    (sss_cons (ss_if (SW.sb (sw_or (sb_cmpR 1 (op_inO hr.un65) blF_in (se_lst sa_nil) (by first | exact nomark _ | with_unfolding_all rfl)) (sw_or1 (sb_not (sb_tru (se_call (c_is_rule_1 T) hgd (hr.mono (by decide)) (by rfl) (sa_cons (se_var 2) sa_nil))))))) (sss_one ss_never) sss_nil)
    (sss_one (ss_retV 2)))))))
  exact ⟨f, fd, F, hm, z⟩
theorem ck_read_rule_0_text (T : Tx K mg) : DefK P w K mg base "read_rule" 4 1 f_read_rule 0 ["text"] [] [.kw 0] := let ⟨f, fd, F, hm, G⟩ := ok_read_rule T; defK_of F hm G rfl (kb_none F 0 ["text"] _ fun _ _ _ _ _ _ us ws hl h2 => match us, hl, ws, h2 with | [], _, [_], _ => rfl) (fun _ _ _ => .nil) rfl rfl
theorem c_read_rule_1 (T : Tx K mg) : DefC P w K mg base "read_rule" 4 1 f_read_rule [] := let ⟨f, fd, F, hm, G⟩ := ok_read_rule T; defC_all F hm G mkFn_ar fun _ _ _ _ _ _ us hl => match us, hl with | [_], _ => rfl
theorem sc__law_right : FnScope ["_law_purse_here", "_law_wide", "_law_great", "_law_some", "_law_parts", "_law_due", "_law_turn"] ["_law_purse_here"] (defScope s__law_right) := ⟨rfl, rfl, rfl, by decide +kernel, rfl, by decide +kernel, by decide +kernel⟩
theorem ok__law_right (T : Tx K mg) : ∃ (f : Addr) (fd : FuncData), FunD K "_law_right" "_law_right" (defArgs s__law_right) (defBody s__law_right) (defScope s__law_right) [] [] f fd ∧ mg "_law_right" = some (.ref f) ∧ FnOkG P w K mg base CX0 5 f fd ["_law_purse_here"] (spF K 1 f__law_right) := by
  obtain ⟨f, fd, F, hm⟩ := T.d__law_right
  have SC := sc__law_right
  have z := fnok (P := P) (w := w) (mg := mg) (base := base) (k := 4) (m := b__law_right) F SC (fun cdv A outer s H E ecd hgd hr => (sss_cons (ss_set SC.nd rfl (by first | exact Or.inl rfl | exact Or.inr rfl) (se_bin op_powD se_int se_int))
    (sss_cons (ss_set SC.nd rfl (by first | exact Or.inl rfl | exact Or.inr rfl) (se_tup (sa_cons (se_tup (sa_cons (se_bin op_addD (se_var 1) (se_call (c__law_take_2 T) hgd (hr.mono (by decide)) (by rfl) (sa_cons (se_var 0) (sa_cons se_int sa_nil)))) (sa_cons (se_var 1) sa_nil))) (sa_cons se_non (sa_cons (se_tup (sa_cons se_int (sa_cons se_int sa_nil))) sa_nil)))))
    (sss_cons (ss_set SC.nd rfl (by first | exact Or.inl rfl | exact Or.inr rfl) (se_bin op_addD (se_lc (own := [("_law_turn", 6)]) rfl SC.nd (si_range1 (by rfl) T.g_range (sa_cons se_int sa_nil)) (blkOk_by (N := ["_law_purse_here", "_law_wide", "_law_great", "_law_some", "_law_parts", "_law_due", "_law_turn"]) (sc := defScope s__law_right) (own := [("_law_turn", 6)]) (by decide +kernel)) (by decide) (fun _ _ _ _ _ => (sg_nm SC.nd rfl (by first | exact Or.inl rfl | exact Or.inr rfl))) (fun _ _ _ _ _ => (se_call (c__law_drawn_rule_1 T) hgd (hr.mono (by decide)) (by rfl) (sa_cons (se_var 0) sa_nil)))) (se_lst (sa_cons (se_tup (sa_cons se_non sa_nil)) (sa_cons (se_bin op_repD (se_tup (sa_cons se_non sa_nil)) se_int) (sa_cons (se_tup (sa_cons (se_tup (sa_cons se_int (sa_cons se_int sa_nil))) sa_nil)) (sa_cons (se_var 2) sa_nil)))))))
    (sss_cons (ss_for PassesOwn.never rfl (si_seq (se_bin op_addD (se_var 3) (se_slP 3 so_none (so_some se_int)))) (sg_nm SC.nd rfl (by first | exact Or.inl rfl | exact Or.inr rfl)) (sss_cons (ss_set SC.nd rfl (by first | exact Or.inl rfl | exact Or.inr rfl) (se_call (c__law_words_1 T) hgd (hr.mono (by decide)) (by rfl) (sa_cons (se_var 4) sa_nil)))
    (sss_cons (ss_if (sb_cmp (op_neDd hr.units) blF_ne (se_lst (sa_cons (se_call (c_show_rule_1 T) hgd (hr.mono (by decide)) (by rfl) (sa_cons (se_var 4) sa_nil)) (sa_cons (se_callK0 (ck_show_rule_0_rule T) hgd (hr.mono (by decide)) (by rfl) (sk_cons (se_var 4) sk_nil)) sa_nil))) (se_lst (sa_cons (se_var 5) (sa_cons (se_var 5) sa_nil))) (by first | exact nomark _ | with_unfolding_all rfl)) (sss_one (ss_ret se_bl)) sss_nil)
    (sss_one (ss_if (sb_cmp (op_neDd hr.units) blF_ne (se_callB (call_reprD hgd hr.units) (by rfl) T.g_repr (by rfl) (sa_cons (se_lst (sa_cons (se_call (c_read_rule_1 T) hgd (hr.mono (by decide)) (by rfl) (sa_cons (se_var 5) sa_nil)) (sa_cons (se_callK0 (ck_read_rule_0_text T) hgd (hr.mono (by decide)) (by rfl) (sk_cons (se_var 5) sk_nil)) sa_nil))) sa_nil)) (se_callB (call_reprD hgd hr.units) (by rfl) T.g_repr (by rfl) (sa_cons (se_lst (sa_cons (se_var 4) (sa_cons (se_var 4) sa_nil))) sa_nil)) (by first | exact nomark _ | with_unfolding_all rfl)) (sss_one (ss_ret se_bl)) sss_nil)))))
    (sss_one (ss_ret se_bl)))))))
  exact ⟨f, fd, F, hm, z⟩
theorem c__law_right_1 (T : Tx K mg) : DefC P w K mg base "_law_right" 5 1 f__law_right [] := let ⟨f, fd, F, hm, G⟩ := ok__law_right T; defC_all F hm G mkFn_ar fun _ _ _ _ _ _ us hl => match us, hl with | [_], _ => rfl
theorem sc__law_purse : FnScope ["_law_cell_here", "_law_digits"] ["_law_cell_here"] (defScope s__law_purse) := ⟨rfl, rfl, rfl, by decide +kernel, rfl, by decide +kernel, by decide +kernel⟩
theorem ok__law_purse (T : Tx K mg) : ∃ (f : Addr) (fd : FuncData), FunD K "_law_purse" "_law_purse" (defArgs s__law_purse) (defBody s__law_purse) (defScope s__law_purse) [] [] f fd ∧ mg "_law_purse" = some (.ref f) ∧ FnOkG P w K mg base CX0 1 f fd ["_law_cell_here"] (spF K 1 f__law_purse) := by
  obtain ⟨f, fd, F, hm⟩ := T.d__law_purse
  have SC := sc__law_purse
  have z := fnok (P := P) (w := w) (mg := mg) (base := base) (k := 0) (m := b__law_purse) F SC (fun cdv A outer s H E ecd hgd hr => (sss_cons (ss_set SC.nd rfl (by first | exact Or.inl rfl | exact Or.inr rfl) se_int)
    (sss_cons (ss_if (SW.sb (sw_or (sb_cmp op_ltD blF_lt (se_var 0) se_int (by first | exact nomark _ | with_unfolding_all rfl)) (sw_or1 (sb_cmp op_geD blF_ge (se_var 0) (se_bin op_powD se_int se_int) (by first | exact nomark _ | with_unfolding_all rfl))))) (sss_one (ss_set SC.nd rfl (by first | exact Or.inl rfl | exact Or.inr rfl) (se_callB (call_absD) (by rfl) T.g_abs (by rfl) (sa_cons (se_var 0) sa_nil)))) sss_nil)
    (sss_one (ss_ret (se_box (sa_cons (se_bin op_modD (se_var 0) se_int) (sa_cons (se_var 1) (sa_cons se_int sa_nil)))))))))
  exact ⟨f, fd, F, hm, z⟩
theorem c__law_purse_1 (T : Tx K mg) : DefC P w K mg base "_law_purse" 1 1 f__law_purse [] := let ⟨f, fd, F, hm, G⟩ := ok__law_purse T; defC_all F hm G mkFn_ar fun _ _ _ _ _ _ us hl => match us, hl with | [_], _ => rfl
theorem sc__law_cell : FnScope ["_law_script", "_law_k", "_law_state", "_law_cell_here"] ["_law_script", "_law_k"] (defScope s__law_cell) := ⟨rfl, rfl, rfl, by decide +kernel, rfl, by decide +kernel, by decide +kernel⟩
theorem ok__law_cell (T : Tx K mg) : ∃ (f : Addr) (fd : FuncData), FunD K "_law_cell" "_law_cell" (defArgs s__law_cell) (defBody s__law_cell) (defScope s__law_cell) [] [] f fd ∧ mg "_law_cell" = some (.ref f) ∧ FnOkG P w K mg base CX0 1 f fd ["_law_script", "_law_k"] (spF K 2 f__law_cell) := by
  obtain ⟨f, fd, F, hm⟩ := T.d__law_cell
  have SC := sc__law_cell
  have z := fnok (P := P) (w := w) (mg := mg) (base := base) (k := 0) (m := b__law_cell) F SC (fun cdv A outer s H E ecd hgd hr => (sss_cons (ss_if (sb_cmp op_ltD blF_lt (se_var 1) (se_lenP 0 (by rfl) T.g_len) (by first | exact nomark _ | with_unfolding_all rfl)) (sss_one (ss_ret (se_ixP 0 (se_var 1)))) sss_nil)
    (sss_cons (ss_set SC.nd rfl (by first | exact Or.inl rfl | exact Or.inr rfl) (se_bin op_modD (se_bin op_mulD se_int (se_bin op_addD (se_bin op_addD (se_bin op_mulD (se_var 1) (se_var 1)) (se_bin op_mulD se_int (se_var 1))) se_int)) se_int))
    (sss_cons (ss_for PassesOwn.never rfl (si_seq (se_slP 0 so_none (so_some se_int))) (sg_nm SC.nd rfl (by first | exact Or.inl rfl | exact Or.inr rfl)) (sss_one (ss_set SC.nd rfl (by first | exact Or.inl rfl | exact Or.inr rfl) (se_bin op_modD (se_bin op_addD (se_bin op_mulD (se_var 2) se_int) (se_var 3)) se_int))))
    (sss_one (ss_retV 2))))))
  exact ⟨f, fd, F, hm, z⟩
theorem c__law_cell_2 (T : Tx K mg) : DefC P w K mg base "_law_cell" 1 2 f__law_cell [] := let ⟨f, fd, F, hm, G⟩ := ok__law_cell T; defC_all F hm G mkFn_ar fun _ _ _ _ _ _ us hl => match us, hl with | [_, _], _ => rfl
theorem sc_law : FnScope ["_law_script", "_law_k"] ["_law_script"] (defScope s_law) := ⟨rfl, rfl, rfl, by decide +kernel, rfl, by decide +kernel, by decide +kernel⟩
theorem ok_law (T : Tx K mg) : ∃ (f : Addr) (fd : FuncData), FunD K "law" "law" (defArgs s_law) (defBody s_law) (defScope s_law) [] [] f fd ∧ mg "law" = some (.ref f) ∧ FnOkG P w K mg base CX0 6 f fd ["_law_script"] (spF K 1 f_law) := by
  obtain ⟨f, fd, F, hm⟩ := T.d_law
  have SC := sc_law
  have z := fnok (P := P) (w := w) (mg := mg) (base := base) (k := 5) (m := b_law) F SC (fun cdv A outer s H E ecd hgd hr => (sss_one (ss_ret (se_callB (call_allD rfl) (by rfl) T.g_all (by rfl) (sa_cons (se_lc (own := [("_law_k", 1)]) rfl SC.nd (si_range1 (by rfl) T.g_range (sa_cons (se_callB (call_max2D rfl) (by rfl) T.g_max (by rfl) (sa_cons se_int (sa_cons (se_callB (call_min2D rfl) (by rfl) T.g_min (by rfl) (sa_cons se_int (sa_cons (se_lenP 0 (by rfl) T.g_len) sa_nil))) sa_nil))) sa_nil)) (blkOk_by (N := ["_law_script", "_law_k"]) (sc := defScope s_law) (own := [("_law_k", 1)]) (by decide +kernel)) (by decide) (fun _ _ _ _ _ => (sg_nm SC.nd rfl (by first | exact Or.inl rfl | exact Or.inr rfl))) (fun _ _ _ _ _ => (se_call (c__law_right_1 T) hgd (hr.mono (by decide)) (by rfl) (sa_cons (se_call (c__law_purse_1 T) hgd (hr.mono (by decide)) (by rfl) (sa_cons (se_call (c__law_cell_2 T) hgd (hr.mono (by decide)) (by rfl) (sa_cons (se_var 0) (sa_cons (se_var 1) sa_nil))) sa_nil)) sa_nil)))) sa_nil)))))
  exact ⟨f, fd, F, hm, z⟩
end
end L2.Pd.K23
set_option maxHeartbeats 1000000
namespace L2.Pd
open PySem PySem.Spec PyProof.Rows
section
variable {s : S} {i : Nat} {a b c m : M DB}
def AugQ (s : S) (i : Nat) (f : Int → Int → Int) (Q : Fl → S → Prop) : D → D → Prop
  | .int a, .int b => i < s.env.length ∧ Q .nx { s with env := s.env.set i (some (.int (f a b), false)) }
  | _, _ => False
@[simp] theorem augQ_i {f : Int → Int → Int} {Q : Fl → S → Prop} {x y : Int} : AugQ s i f Q (.int x) (.int y) = (i < s.env.length ∧ Q .nx { s with env := s.env.set i (some (.int (f x y), false)) }) := rfl
@[simp] theorem ok_aug {f : Int → Int → Int} {Q : Fl → S → Prop} : Ok (augM i f m) s Q = PeekQ (fun d => Ok m s fun t s1 => AugQ s1 i f Q d t.1) s.env[i]? := by
  unfold augM
  rw [ok_bind, ok_peek]
  congr
  funext d
  rw [ok_bind]
  congr
  funext ⟨e, _⟩ s1
  cases d with
  | int x =>
    cases e with
    | int y => exact ok_putv
    | _ => first | rfl | (unfold Ok; rfl)
  | _ => first | rfl | (unfold Ok; rfl)
@[simp] theorem ok_par3 {j l : Nat} {Q : Fl → S → Prop} : Ok (par3 i j l a b c) s Q = Ok a s fun x s1 => Ok b s1 fun y s2 => Ok c s2 fun z s3 => l < s3.env.length ∧ j < (s3.env.set l (some z)).length ∧ i < ((s3.env.set l (some z)).set j (some y)).length ∧ Q .nx { s3 with env := ((s3.env.set l (some z)).set j (some y)).set i (some x) } := by
  unfold par3
  rw [ok_bind]; congr; funext x s1; rw [ok_bind]; congr; funext y s2; rw [ok_bind]; congr; funext z s3
  rw [ok_bind]; simp only [ok_putv, ok_bind]
theorem maxLD_ints {ns : List Int} {m : Int} (h : ns.max? = some m) : maxLD [.lst (ns.map D.int)] = some (.int m, false) := by
  have e : ∀ ns : List Int, intsOf (ns.map D.int) = some ns := fun ns => by
    induction ns with
    | nil => rfl
    | cons n ns ih => simp [intsOf, ih]
  simp [maxLD, e, h]
theorem minLD_ints {ns : List Int} {m : Int} (h : ns.min? = some m) : minLD [.lst (ns.map D.int)] = some (.int m, false) := by
  have e : ∀ ns : List Int, intsOf (ns.map D.int) = some ns := fun ns => by
    induction ns with
    | nil => rfl
    | cons n ns ih => simp [intsOf, ih]
  simp [minLD, e, h]
@[simp] theorem ok_divmod {x y : Int} {Q : DB → S → Prop} : Ok (lift (divmodD [.int x, .int y])) s Q = (okDiv y ∧ Q (.tup [.int (x / y), .int (x % y)], false) s) := by
  unfold divmodD; simp only [ok_lift_ite]
def RevQ (Q : DB → Prop) : D → Prop
  | .lst ds => Q (.lst ds.reverse, true)
  | _ => False
@[simp] theorem revQ_l {Q : DB → Prop} {ds : List D} : RevQ Q (.lst ds) = Q (.lst ds.reverse, true) := rfl
@[simp] theorem ok_rev {Q : DB → S → Prop} : Ok (revM m) s Q = Ok m s fun t s1 => RevQ (fun r => Q r s1) t.1 := by
  unfold revM; rw [ok_bind]; congr; funext ⟨d, _⟩ s1
  cases d <;> (first | rfl | (unfold Ok; rfl))
def InsQ (s : S) (i : Nat) (Q : DB → S → Prop) : D → D → Option (Option DB) → Prop
  | .int j, u, some (some (.lst ds, true)) => (0 ≤ j ∧ j < 2 ^ 62 ∧ ds.length < sizeLine) ∧ Q (.non, false) { s with env := s.env.set i (some (.lst (ds.take j.toNat ++ u :: ds.drop j.toNat), true)) }
  | _, _, _ => False
@[simp] theorem insQ_t {j : Int} {u : D} {ds : List D} {Q : DB → S → Prop} : InsQ s i Q (.int j) u (some (some (.lst ds, true))) = ((0 ≤ j ∧ j < 2 ^ 62 ∧ ds.length < sizeLine) ∧ Q (.non, false) { s with env := s.env.set i (some (.lst (ds.take j.toNat ++ u :: ds.drop j.toNat), true)) }) := rfl
@[simp] theorem ok_ins {Q : DB → S → Prop} : Ok (insM i a b) s Q = (IsOwn s.env[i]? ∧ Ok a s fun t s1 => Ok b s1 fun u s2 => InsQ s2 i Q t.1 u.1 s2.env[i]?) := by
  unfold insM; rw [ok_onOwn]; congr 1
  refine (ok_bind (m := a)).trans ?_
  congr; funext ⟨d, _⟩ s1
  refine (ok_bind (m := b)).trans ?_
  congr; funext ⟨u, _⟩ s2
  unfold Ok ownAt InsQ putO
  dsimp only
  cases s2.env[i]? with
  | none => cases d <;> (first | rfl | (unfold Ok; rfl))
  | some o =>
    cases o with
    | none => cases d <;> (first | rfl | (unfold Ok; rfl))
    | some x =>
      obtain ⟨e, bb⟩ := x
      cases e with
      | lst ds =>
        cases bb with
        | false => cases d <;> (first | rfl | (unfold Ok; rfl))
        | true =>
          cases d with
          | int j =>
            dsimp only
            by_cases c : 0 ≤ j ∧ j < 2 ^ 62 ∧ ds.length < sizeLine
            · rw [if_pos c]; simp only [c, and_self, true_and]
            · rw [if_neg c]; simp only [c, false_and]
          | _ => first | rfl | (unfold Ok; rfl)
      | _ => cases d <;> (first | rfl | (unfold Ok; rfl))
end
end L2.Pd
set_option maxHeartbeats 1000000
namespace L2.Pd
open PySem PySem.Spec PyProof.Rows
theorem wipe_get {e : Ev} {i : Nat} : ∀ {vs : List Nat}, (wipeE e vs)[i]? = if i ∈ vs then (if i < e.length then some none else none) else e[i]?
  | [] => by simp [wipeE]
  | v :: vs => by
    have := wipe_get (e := e) (i := i) (vs := vs)
    unfold wipeE
    by_cases c : v = i
    · subst c
      rw [List.getElem?_set]
      simp [wipeE_len]
    · rw [List.getElem?_set_ne c, this]
      have : ¬ i = v := fun z => c z.symm
      simp [this]
theorem rest_get {e0 e : Ev} {i : Nat} : ∀ {vs : List Nat}, (restE e0 e vs)[i]? = if i ∈ vs then (if i < e.length then some (e0[i]?).join else none) else e[i]?
  | [] => by simp [restE]
  | v :: vs => by
    have := rest_get (e0 := e0) (e := e) (i := i) (vs := vs)
    unfold restE
    by_cases c : v = i
    · subst c
      rw [List.getElem?_set]
      simp [restE_len]
    · rw [List.getElem?_set_ne c, this]
      have : ¬ i = v := fun z => c z.symm
      simp [this]
theorem wipe_rest {e0 e : Ev} {vs : List Nat} (h : wipeE e vs = wipeE e0 vs) : restE e0 e vs = e0 := by
  have hl : e.length = e0.length := by rw [← wipeE_len e vs, h, wipeE_len]
  refine List.ext_getElem? fun i => ?_
  have hi : (wipeE e vs)[i]? = (wipeE e0 vs)[i]? := by rw [h]
  rw [wipe_get, wipe_get] at hi
  rw [rest_get]
  by_cases c : i ∈ vs
  · simp only [c, if_true]
    by_cases c2 : i < e.length
    · rw [if_pos c2, List.getElem?_eq_getElem (by omega)]; (first | rfl | (unfold Ok; rfl))
    · rw [if_neg c2, List.getElem?_eq_none (by omega)]
  · simp only [c, if_false] at hi ⊢
    exact hi
section
variable {s : S} {Q : List D → S → Prop} {g : D → M Unit} {tt : M Bool} {te : M DB} {vs : List Nat} {α : Type}
/-- a comprehension whose parts may draw -/
theorem lcL_st {xs : List α} {f : α → D} (P : Nat → List D → List (List Int) → Prop) (h0 : P 0 [] s.st)
    (hs : ∀ (i : Nat) (x : α) (acc : List D) (st : List (List Int)), xs[i]? = some x → acc.length = i → P i acc st → Ok (g (f x)) ⟨wipeE s.env vs, st⟩ fun _ s1 => Ok te s1 fun y s2 => wipeE s2.env vs = wipeE s.env vs ∧ P (i + 1) (acc ++ [y.1]) s2.st)
    (hQ : ∀ (acc : List D) (st : List (List Int)) (E : Ev), restE s.env E vs = s.env → acc.length = xs.length → P xs.length acc st → Q acc ⟨E, st⟩) : Ok (lcL g noT te vs (xs.map f)) s Q := by
  refine ok_lcL (fun i acc s' => wipeE s'.env vs = wipeE s.env vs ∧ acc.length = i ∧ P i acc s'.st) _ ⟨rfl, rfl, h0⟩ ?_ ?_
  · rintro i d acc ⟨e, st⟩ hd ⟨h1, h2, h3⟩
    rw [List.getElem?_map] at hd
    obtain ⟨x, hx, rfl⟩ := Option.map_eq_some_iff.mp hd
    have h1 : wipeE e vs = wipeE s.env vs := h1
    show Ok (g (f x)) ⟨wipeE e vs, st⟩ _
    rw [h1]
    refine (hs i x acc st hx h2 h3).mono fun _ s1 h4 => ?_
    simp only [ok_noT, if_true]
    exact h4.mono fun y s2 h5 => ⟨h5.1, by simp [h2], h5.2⟩
  · rintro acc ⟨e, st⟩ ⟨h1, h2, h3⟩
    rw [List.length_map] at h2 h3
    exact hQ acc st e (wipe_rest h1) h2 h3
theorem lcL_map {xs : List α} {f : α → D} (h : α → D) (hs : ∀ x ∈ xs, Ok (g (f x)) ⟨wipeE s.env vs, s.st⟩ fun _ s1 => Ok te s1 fun y s2 => y.1 = h x ∧ s2.st = s.st ∧ wipeE s2.env vs = wipeE s.env vs)
    (hQ : ∀ E, restE s.env E vs = s.env → Q (xs.map h) ⟨E, s.st⟩) : Ok (lcL g noT te vs (xs.map f)) s Q := by
  refine lcL_st (fun i acc st => acc = (xs.take i).map h ∧ st = s.st) ⟨rfl, rfl⟩ ?_ ?_
  · rintro i x acc st hx _ ⟨rfl, rfl⟩
    refine (hs x (List.mem_of_getElem? hx)).mono fun _ s1 h1 => h1.mono fun y s2 h2 => ⟨h2.2.2, ?_, h2.2.1⟩
    rw [List.take_add_one, hx, h2.1]; simp
  · rintro acc st E hE _ ⟨rfl, rfl⟩
    rw [List.take_length]
    exact hQ E hE
theorem lcL_filt {xs : List α} {f : α → D} (p : α → Bool) (h : α → D) (hs : ∀ x ∈ xs, Ok (g (f x)) ⟨wipeE s.env vs, s.st⟩ fun _ s1 => Ok tt s1 fun b s2 => b = p x ∧ if p x = true then Ok te s2 fun y s3 => y.1 = h x ∧ s3.st = s.st ∧ wipeE s3.env vs = wipeE s.env vs else s2.st = s.st ∧ wipeE s2.env vs = wipeE s.env vs)
    (hQ : ∀ E, restE s.env E vs = s.env → Q ((xs.filter p).map h) ⟨E, s.st⟩) : Ok (lcL g tt te vs (xs.map f)) s Q := by
  refine ok_lcL (fun i acc s' => wipeE s'.env vs = wipeE s.env vs ∧ acc = ((xs.take i).filter p).map h ∧ s'.st = s.st) _ ⟨rfl, rfl, rfl⟩ ?_ ?_
  · rintro i d acc ⟨e, st⟩ hd ⟨h1, h2, h3⟩
    rw [List.getElem?_map] at hd
    obtain ⟨x, hx, rfl⟩ := Option.map_eq_some_iff.mp hd
    have h1 : wipeE e vs = wipeE s.env vs := h1
    have h3 : st = s.st := h3
    show Ok (g (f x)) ⟨wipeE e vs, st⟩ _
    rw [h1, h3]
    refine (hs x (List.mem_of_getElem? hx)).mono fun _ s1 h4 => h4.mono fun b s2 h5 => ?_
    obtain ⟨rfl, h5⟩ := h5
    by_cases c : p x = true
    · simp only [c, if_true] at h5 ⊢
      refine h5.mono fun y s3 h6 => ⟨h6.2.2, ?_, h6.2.1⟩
      rw [List.take_add_one, hx, h2, h6.1]; simp [c]
    · simp only [c, if_false] at h5 ⊢
      refine ⟨h5.2, ?_, h5.1⟩
      rw [List.take_add_one, hx, h2]; simp [c]
  · rintro acc ⟨e, st⟩ ⟨h1, h2, h3⟩
    rw [List.length_map, List.take_length] at h2
    have h3 : st = s.st := h3
    rw [h2, h3]
    exact hQ e (wipe_rest h1)
end
section
variable {s : S} {Q : Fl → S → Prop} {g : D → M Unit} {b : M Fl} {α β : Type}
theorem forL_fold {xs : List α} {f : α → D} (I : β → S → Prop) (step : β → α → β) (a0 : β) (h0 : I a0 s) (hs : ∀ x ∈ xs, ∀ a s, I a s → Ok (g (f x)) s fun _ s1 => Ok b s1 fun fl s2 => FlQ (I (step a x)) Q s2 fl) (he : ∀ s', I (xs.foldl step a0) s' → Q .nx s') : Ok (forL g b (xs.map f)) s Q := by
  refine ok_forL (fun i s' => I ((xs.take i).foldl step a0) s') _ (by simpa using h0) ?_ ?_
  · intro i d s' hd hi
    rw [List.getElem?_map] at hd
    obtain ⟨x, hx, rfl⟩ := Option.map_eq_some_iff.mp hd
    have e : (xs.take (i + 1)).foldl step a0 = step ((xs.take i).foldl step a0) x := by rw [List.take_add_one, hx]; simp
    show Ok _ _ fun _ s1 => Ok b s1 fun fl s2 => FlQ (fun s' => I ((xs.take (i + 1)).foldl step a0) s') Q s2 fl
    rw [e]
    exact hs x (List.mem_of_getElem? hx) _ _ hi
  · intro s' hi
    rw [List.length_map, List.take_length] at hi
    exact he s' hi
theorem forL_find {xs : List α} {f : α → D} (I : S → Prop) (F : α → Option DB) (h0 : I s)
    (hs : ∀ x ∈ xs, ∀ s, I s → Ok (g (f x)) s fun _ s1 => Ok b s1 fun fl s2 => FlQ (fun s3 => F x = none ∧ I s3) (fun fl s3 => ∃ t, fl = .rt t ∧ F x = some t ∧ I s3) s2 fl)
    (hr : ∀ t s', xs.findSome? F = some t → I s' → Q (.rt t) s') (he : ∀ s', xs.findSome? F = none → I s' → Q .nx s') : Ok (forL g b (xs.map f)) s Q := by
  induction xs generalizing s with
  | nil => unfold Ok; exact he s rfl h0
  | cons x xs ih =>
    rw [List.map_cons, ok_forL_cons]
    refine (hs x List.mem_cons_self s h0).mono fun _ s1 h1 => h1.mono fun fl s2 h2 => ?_
    cases fl with
    | nx =>
      have h2 : F x = none ∧ I s2 := h2
      refine ih h2.2 (fun y hy => hs y (List.mem_cons_of_mem _ hy)) (fun t s' q => hr t s' ?_) (fun s' q => he s' ?_)
      · rw [List.findSome?_cons, h2.1]; exact q
      · rw [List.findSome?_cons, h2.1]; exact q
    | ct =>
      have h2 : F x = none ∧ I s2 := h2
      refine ih h2.2 (fun y hy => hs y (List.mem_cons_of_mem _ hy)) (fun t s' q => hr t s' ?_) (fun s' q => he s' ?_)
      · rw [List.findSome?_cons, h2.1]; exact q
      · rw [List.findSome?_cons, h2.1]; exact q
    | bk =>
      obtain ⟨t, e, _⟩ := h2
      cases e
    | rt t =>
      obtain ⟨t', e, h3, h4⟩ := h2
      cases e
      exact hr t s2 (by rw [List.findSome?_cons, h3]) h4
/-- a loop that ends with nothing bad -/
theorem forL_all {xs : List α} {f : α → D} (I : S → Prop) (h0 : I s)
    (hs : ∀ x ∈ xs, ∀ s, I s → Ok (g (f x)) s fun _ s1 => Ok b s1 fun fl s2 => FlQ I Q s2 fl)
    (he : ∀ s', I s' → Q .nx s') : Ok (forL g b (xs.map f)) s Q :=
  forL_fold (β := Unit) (fun _ => I) (fun _ _ => ()) () h0 (fun x hx _ s' h => hs x hx s' h) he
end
section
variable {fn : Fn} {ds : List D} {st : List (List Int)} {Q : DB → List (List Int) → Prop}
/-- a call that gives d and draws nothing -/
structure Ret (fn : Fn) (ds : List D) (st : List (List Int)) (t : DB) : Prop where
  run : FOk fn ds st fun t' st' => t' = t ∧ st' = st
theorem Ret.eq {t : DB} (h : Ret fn ds st t) : FOk fn ds st Q = Q t st := by
  obtain ⟨t', st', e, rfl, rfl⟩ := h.run.out
  rw [fok_eq]
  unfold FOk0
  rw [e]
theorem Ret.to {t : DB} (h : Ret fn ds st t) (q : Q t st) : FOk fn ds st Q := by rw [h.eq]; exact q
theorem Ret.mono {t : DB} (h : Ret fn ds st t) (w : ∀ t' st', t' = t ∧ st' = st → Q t' st') : FOk fn ds st Q := h.run.mono w
end
theorem bls_map {α : Type} (xs : List α) (p : α → Bool) : blsOf (xs.map fun x => .bl (p x)) = some (xs.map p) := by
  induction xs with
  | nil => rfl
  | cons x xs ih => simp [blsOf, ih]
theorem all_map {α : Type} (xs : List α) (p : α → Bool) : allD [.lst (xs.map fun x => .bl (p x))] = some (.bl (xs.all p), false) := by
  simp [allD, bls_map, List.all_map, Function.comp_def]
theorem any_map {α : Type} (xs : List α) (p : α → Bool) : anyD [.lst (xs.map fun x => .bl (p x))] = some (.bl (xs.any p), false) := by
  simp [anyD, bls_map, List.any_map, Function.comp_def]
theorem ints_map {α : Type} (xs : List α) (p : α → Int) : intsOf (xs.map fun x => .int (p x)) = some (xs.map p) := by
  induction xs with
  | nil => rfl
  | cons x xs ih => simp [intsOf, ih]
theorem map_as {α : Type} {xs : List D} {f : α → D} (h : ∀ d ∈ xs, ∃ a, d = f a) : ∃ ys : List α, xs = ys.map f := by
  induction xs with
  | nil => exact ⟨[], rfl⟩
  | cons x xs ih =>
    obtain ⟨a, rfl⟩ := h x List.mem_cons_self
    obtain ⟨ys, rfl⟩ := ih fun d hd => h d (List.mem_cons_of_mem _ hd)
    exact ⟨a :: ys, rfl⟩
theorem rangeD_eq {n : Nat} : rangeD 0 n = (List.range n).map fun (i : Nat) => D.int (i : Int) := by
  unfold rangeD; simp
theorem numD_eq : ∀ (xs : List D) (k : Nat), numD k xs = xs.mapIdx fun i d => D.tup [.int ((k + i : Nat) : Int), d]
  | [], _ => rfl
  | x :: xs, k => by
    rw [List.mapIdx_cons]
    simp only [numD]
    rw [numD_eq xs (k + 1)]
    congr 1
    congr 1
    funext i d
    rw [show k + 1 + i = k + (i + 1) by omega]
@[simp] theorem ok_stM {m : M DB} {lo hi c : M (Option Int)} {s : S} {Q : DB → S → Prop} : Ok (stM m lo hi c) s Q = Ok m s fun t s0 => Ok lo s0 fun l s1 => Ok hi s1 fun u s2 => Ok c s2 fun k s3 => Ok (lift (stD t.1 l u k)) s3 Q := by
  unfold stM; rw [ok_bind]; congr; funext _ _; rw [ok_bind]; congr; funext _ _; rw [ok_bind]; congr; funext _ _; rw [ok_bind]
@[simp] theorem stD_revT {ds : List D} : stD (.tup ds) none none (some (-1)) = if ds.length ≤ sizeLine then some (.tup ds.reverse, false) else none := by
  unfold stD
  dsimp only
  rw [stP_rev, List.length_reverse]
  by_cases h : ds.length ≤ sizeLine
  · rw [if_pos h, if_pos ⟨by decide, by decide, h⟩]
  · rw [if_neg h, if_neg fun z => h z.2.2]
@[simp] theorem stD_revL {ds : List D} : stD (.lst ds) none none (some (-1)) = some (.lst ds.reverse, true) := rfl
@[simp] theorem ok_cmpL {f : List D → Option DB} {i : Nat} {m : M DB} {s : S} {Q : DB → S → Prop} : Ok (cmpL f i m) s Q = PeekQ (fun _ => Ok m s fun y s1 => PeekQ (fun d => Ok (lift (f [d, y.1])) s1 Q) s1.env[i]?) s.env[i]? := by
  unfold cmpL; rw [ok_bind, ok_peek]; congr; funext _; rw [ok_bind]; congr; funext y s1; rw [ok_bind, ok_peek]
@[simp] theorem ok_cmpR {f : List D → Option DB} {i : Nat} {m : M DB} {s : S} {Q : DB → S → Prop} : Ok (cmpR f m i) s Q = Ok m s fun x s1 => PeekQ (fun d => Ok (lift (f [x.1, d])) s1 Q) s1.env[i]? := by
  unfold cmpR; rw [ok_bind]; congr; funext y s1; rw [ok_bind, ok_peek]
@[simp] theorem ok_cmpLR {f : List D → Option DB} {i j : Nat} {s : S} {Q : DB → S → Prop} : Ok (cmpLR f i j) s Q = PeekQ (fun d => PeekQ (fun e => Ok (lift (f [d, e])) s Q) s.env[j]?) s.env[i]? := by
  unfold cmpLR; rw [ok_bind, ok_peek]; congr; funext _; rw [ok_bind, ok_peek]
end L2.Pd
set_option maxHeartbeats 4000000
namespace L2.Pd
open PySem PySem.Spec PyProof.Rows
/-- one turn of the outer loop -/
theorem dturn_out (kx vx t0 i0 t1 i1 : Expr) (ifs0 ifs1 : List Expr) (scope : Scope) (pos : Pos) (it acc : Value) (env : Env) :
    compTurn (.DictComp kx vx [⟨t0, i0, ifs0, 0⟩, ⟨t1, i1, ifs1, 0⟩] scope pos) 0 it acc env = (do
      standAt i0.pos
      match ← pyNext it with
      | none => pure (.done .next)
      | some v =>
        letOwnedTupleGo t0 it v
        assign t0 env v
        let mut ok := true
        for c in ifs0 do
          if ok then ok ← isTrue c env (eval c env)
        if ok then
          let x ← eval i1 env
          standAt i1.pos
          let x ← foldedSetIterable i1 env x
          let _ ← runOwn (.compStart (.DictComp kx vx [⟨t0, i0, ifs0, 0⟩, ⟨t1, i1, ifs1, 0⟩] scope pos) 1 (← holding [x] (pyIter x)) acc env) env
        again (.compLoop (.DictComp kx vx [⟨t0, i0, ifs0, 0⟩, ⟨t1, i1, ifs1, 0⟩] scope pos) 0 it acc env)) := by rfl
/-- one turn of the inner loop -/
theorem dturn_in (kx vx t0 i0 t1 i1 : Expr) (ifs0 ifs1 : List Expr) (scope : Scope) (pos : Pos) (it : Value) (D : Addr) (env : Env) :
    compTurn (.DictComp kx vx [⟨t0, i0, ifs0, 0⟩, ⟨t1, i1, ifs1, 0⟩] scope pos) 1 it (.ref D) env = (do
      standAt i1.pos
      match ← pyNext it with
      | none => pure (.done .next)
      | some v =>
        letOwnedTupleGo t1 it v
        assign t1 env v
        let mut ok := true
        for c in ifs1 do
          if ok then ok ← isTrue c env (eval c env)
        if ok then
          (do
            let kv ← eval kx env
            let vv ← holding [kv] (eval vx env)
            standAt { kx.pos with endLine := vx.pos.endLine, endCol := vx.pos.endCol }
            holding [kv, vv] (dictSet D kv vv))
        again (.compLoop (.DictComp kx vx [⟨t0, i0, ifs0, 0⟩, ⟨t1, i1, ifs1, 0⟩] scope pos) 1 it (.ref D) env)) := by rfl
section
variable {prog : Program} {w : World} {A : Around} {R : Result → Shared → Prop} {s : Shared} {kx vx t0 i0 t1 i1 : Expr} {ifs0 ifs1 : List Expr} {scope : Scope} {pos : Pos} {it acc : Value} {env : Env} {D : Addr}
theorem dloop_out (hs : ∀ x, foldedSetIterable i1 env x = pure x) (I : Nat → Shared → Prop)
    (turn : ∀ n s, I n s → wpAny (model prog w) A (pyNext it) (fun r s₁ => match r with
      | none => R (.ok .next) s₁
      | some v => wpAny (model prog w) A (letOwnedTupleGo t0 it v) (fun _ s₁' => wpAny (model prog w) A (assign t0 env v) (fun _ s₂ =>
          wpAny (model prog w) A (forIn ifs0 true fun c r => if r = true then do let ok ← isTrue c env (eval c env); pure (ForInStep.yield ok) else pure (ForInStep.yield r)) (fun ok s₃ =>
            if ok = true then wpAny (model prog w) A (eval i1 env) (fun x s₄ => wpAny (model prog w) A (pyIter x) (fun it1 s₅ =>
              codeAny (model prog w) A (.compStart (.DictComp kx vx [⟨t0, i0, ifs0, 0⟩, ⟨t1, i1, ifs1, 0⟩] scope pos) 1 it1 acc env) (fun r s' => match r with
                | .ok _ => ∃ m, m < n ∧ I m s'
                | .error _ => False) s₅) (notedBy (model prog w) A env fun e s' => R (.error e) s') s₄) (notedBy (model prog w) A env fun e s' => R (.error e) s') s₃
            else ∃ m, m < n ∧ I m s₃) (notedBy (model prog w) A env fun e s' => R (.error e) s') s₂) (notedBy (model prog w) A env fun e s' => R (.error e) s') s₁') (notedBy (model prog w) A env fun e s' => R (.error e) s') s₁) (notedBy (model prog w) A env fun e s' => R (.error e) s') s)
    (n : Nat) (h : I n s) :
    codeAny (model prog w) A (.compLoop (.DictComp kx vx [⟨t0, i0, ifs0, 0⟩, ⟨t1, i1, ifs1, 0⟩] scope pos) 0 it acc env) R s := by
  refine codeAny_loop rfl I (fun n s hI => ?_) n h
  show wpAny _ A ((compTurn (.DictComp kx vx [⟨t0, i0, ifs0, 0⟩, ⟨t1, i1, ifs1, 0⟩] scope pos) 0 it acc env).onRaise (fun x => do noteFrame x env; theTreesLotGoes x)) _ _ s
  refine wpAny_noted ?_
  rw [dturn_out]
  refine wpAny_bind (wpAny_standAt (wpAny_bind (wpAny_mono (turn n s hI) (fun r s₁ h₁ => ?_) fun _ _ h' => h')))
  cases r with
  | none => exact wpAny_pure h₁
  | some v =>
    refine wpAny_bind (wpAny_mono h₁ (fun _ s₁' h₁' => ?_) fun _ _ h' => h')
    refine wpAny_bind (wpAny_mono h₁' (fun _ s₂ h₂ => wpAny_bind (wpAny_mono h₂ (fun ok s₃ h₃ => ?_) fun _ _ h' => h')) fun _ _ h' => h')
    cases ok with
    | false => exact wpAny_pure ⟨rfl, h₃⟩
    | true =>
      refine wpAny_bind (wpAny_mono h₃ (fun x s₄ h₄ => ?_) fun _ _ h' => h')
      refine wpAny_bind (wpAny_standAt (wpAny_bind (wpAny_of_eq (hs x) (wpAny_bind (wpAny_holding (wpAny_mono h₄ (fun it1 s₅ h₅ => ?_) fun _ _ h' => h'))))))
      refine wpAny_bind (wpAny_runOwn ?_)
      rw [Around.mark_none]
      refine codeAny_mono h₅ fun r s' hr => ?_
      cases r with
      | ok f =>
        first
          | exact wpAny_pure ⟨rfl, hr⟩
          | exact wpAny_bind (wpAny_pure (wpAny_pure ⟨rfl, hr⟩))
      | error e => exact hr.elim
theorem dloop_in (I : Nat → Shared → Prop)
    (turn : ∀ n s, I n s → wpAny (model prog w) A (pyNext it) (fun r s₁ => match r with
      | none => R (.ok .next) s₁
      | some v => wpAny (model prog w) A (letOwnedTupleGo t1 it v) (fun _ s₁' => wpAny (model prog w) A (assign t1 env v) (fun _ s₂ =>
          wpAny (model prog w) A (forIn ifs1 true fun c r => if r = true then do let ok ← isTrue c env (eval c env); pure (ForInStep.yield ok) else pure (ForInStep.yield r)) (fun ok s₃ =>
            if ok = true then wpAny (model prog w) A (eval kx env) (fun kv s₄ => wpAny (model prog w) A (eval vx env) (fun vv s₅ =>
              wpAny (model prog w) A (dictSet D kv vv) (fun _ s₆ => ∃ m, m < n ∧ I m s₆) (notedBy (model prog w) A env fun e s' => R (.error e) s') s₅) (notedBy (model prog w) A env fun e s' => R (.error e) s') s₄) (notedBy (model prog w) A env fun e s' => R (.error e) s') s₃
            else ∃ m, m < n ∧ I m s₃) (notedBy (model prog w) A env fun e s' => R (.error e) s') s₂) (notedBy (model prog w) A env fun e s' => R (.error e) s') s₁') (notedBy (model prog w) A env fun e s' => R (.error e) s') s₁) (notedBy (model prog w) A env fun e s' => R (.error e) s') s)
    (n : Nat) (h : I n s) :
    codeAny (model prog w) A (.compLoop (.DictComp kx vx [⟨t0, i0, ifs0, 0⟩, ⟨t1, i1, ifs1, 0⟩] scope pos) 1 it (.ref D) env) R s := by
  refine codeAny_loop rfl I (fun n s hI => ?_) n h
  show wpAny _ A ((compTurn (.DictComp kx vx [⟨t0, i0, ifs0, 0⟩, ⟨t1, i1, ifs1, 0⟩] scope pos) 1 it (.ref D) env).onRaise (fun x => do noteFrame x env; theTreesLotGoes x)) _ _ s
  refine wpAny_noted ?_
  rw [dturn_in]
  refine wpAny_bind (wpAny_standAt (wpAny_bind (wpAny_mono (turn n s hI) (fun r s₁ h₁ => ?_) fun _ _ h' => h')))
  cases r with
  | none => exact wpAny_pure h₁
  | some v =>
    refine wpAny_bind (wpAny_mono h₁ (fun _ s₁' h₁' => ?_) fun _ _ h' => h')
    refine wpAny_bind (wpAny_mono h₁' (fun _ s₂ h₂ => wpAny_bind (wpAny_mono h₂ (fun ok s₃ h₃ => ?_) fun _ _ h' => h')) fun _ _ h' => h')
    cases ok with
    | false => exact wpAny_pure ⟨rfl, h₃⟩
    | true =>
      exact wpAny_bind (wpAny_bind (wpAny_mono h₃ (fun kv s₄ h₄ => wpAny_bind (wpAny_holding (wpAny_mono h₄ (fun vv s₅ h₅ => wpAny_bind (wpAny_standAt (wpAny_holding (wpAny_mono h₅ (fun _ s₆ h₆ => wpAny_pure ⟨rfl, h₆⟩) fun _ _ h' => h')))) fun _ _ h' => h'))) fun _ _ h' => h'))
theorem dstart1_ok (h0 : codeAny (model prog w) A (.compLoop (.DictComp kx vx [⟨t0, i0, ifs0, 0⟩, ⟨t1, i1, ifs1, 0⟩] scope pos) 1 it acc env) R s)
    (h : wpAny (model prog w) A (pyIter it) (fun it' s' => codeAny (model prog w) A (.compLoop (.DictComp kx vx [⟨t0, i0, ifs0, 0⟩, ⟨t1, i1, ifs1, 0⟩] scope pos) 1 it' acc env) R s')
      (notedBy (model prog w) A env fun x s' => R (.error x) s') s) :
    codeAny (model prog w) A (.compStart (.DictComp kx vx [⟨t0, i0, ifs0, 0⟩, ⟨t1, i1, ifs1, 0⟩] scope pos) 1 it acc env) R s := by
  refine codeAny_of_tree ?_
  show wpAny _ _ ((compStart (.DictComp kx vx [⟨t0, i0, ifs0, 0⟩, ⟨t1, i1, ifs1, 0⟩] scope pos) 1 it acc env).onRaise (fun x => do noteFrame x env; standAt theWindowsPlace)) _ _ s
  refine wpAny_notedAt ?_
  unfold compStart
  show wpAny _ _ (ask >>= _) _ _ s
  refine wpAny_bind (wpAny_askSetting (wpAny_ite ?_))
  split
  · first
      | exact wpAny_bind (wpAny_pure (wpAny_pure (And.intro rfl h0)))
      | exact wpAny_pure (And.intro rfl h0)
  · first
      | exact wpAny_bind (wpAny_rule (wpAny_bind (wpAny_standAt (wpAny_bind (wpAny_mono h (fun it' s' h' => wpAny_pure (And.intro rfl h')) fun _ _ x => x)))))
      | (refine wpAny_bind (wpAny_rule ?_); show wpAny _ _ (standAt i1.pos >>= _) _ _ s; exact wpAny_bind (wpAny_standAt (wpAny_bind (wpAny_mono h (fun it' s' h' => wpAny_pure (And.intro rfl h')) fun _ _ x => x))))
end
end L2.Pd
set_option maxHeartbeats 4000000
namespace L2.Pd
open PySem PySem.Spec PyProof.Rows
section
variable {X : Cx}
def tDc2 (wi : TI) (g : TG) (tt : TT) (wi1 : TI) (g1 : TG) (tt1 : TT) (tk tv : TE) (vs vs1 : List Nat) : TE := fun σ H Q => wi σ H fun J H1 => ∀ D, H1 D = none → ∃ W : Nat → Nat → Hp → Prop, (∃ m, W 0 m (upd H1 D (.dK []))) ∧ ∀ i m H, W i m H →
  (J.stop i H ∧ Q (.ref D) H) ∨ (J.go i H ∧ ∃ Nx : Hp → Prop, (∀ H', Nx H' → ∃ m', m' < m ∧ W (i + 1) m' H') ∧ ∀ x H', J.yld i H x H' → g x (wipe σ vs) H' fun σ2 H2 => wipe σ2 vs = wipe σ vs ∧ tt σ2 H2 fun b H3 =>
    if b = true then wi1 σ2 H3 fun J1 H4 => ∃ W1 : Nat → Nat → Hp → Prop, (∃ m, W1 0 m H4) ∧ ∀ j k H, W1 j k H →
      (J1.stop j H ∧ Nx H) ∨ (J1.go j H ∧ ∃ Nx1 : Hp → Prop, (∀ H', Nx1 H' → ∃ k', k' < k ∧ W1 (j + 1) k' H') ∧ ∀ x H', J1.yld j H x H' → g1 x (wipe σ2 vs1) H' fun σ3 H5 => wipe σ3 vs1 = wipe σ2 vs1 ∧ tt1 σ3 H5 fun b H6 =>
        if b = true then tk σ3 H6 fun y H7 => tv σ3 H7 fun z H8 => ∃ kvs key, y = kV key ∧ H8 D = some (.dK kvs) ∧ kvs.length < sizeLine ∧ Nx1 (upd H8 D (.dK (L2.putK kvs key z))) else Nx1 H6)
    else Nx H3)
theorem dc2_core {pins : List (Addr × Obj)} {s : Shared} {σ : St} {H : Hp} {Q : VK} {kx vx tg iter tg1 iter1 : Expr} {ifs ifs1 : List Expr} {scope : Scope} {own : List (Str × Nat)} {vs1 : List Nat} {pos pos' : Pos} {wi wi1 : TI} {g g1 : TG} {tt tt1 : TT} {tk tv : TE} {use : Option (Value → Sem Unit)} {Qf : Value → Shared → Prop}
    (hc : X.calm = true) (hN : X.N.Nodup) (I : Inv X pins σ H s) (hi : PI X tg iter wi) (ok : BlkOk X.N X.env.scope scope own) (hv : ∀ i ∈ vs1, i ∈ own.map (·.2))
    (hg : ∀ (s : Shared) (H : Hp) (C : Addr) (cl : List (Str × Addr)) (fp : List Addr), PG (X.blk s H scope (compEnvC scope cl C X.env) fp) tg g) (ht : ∀ (s : Shared) (H : Hp) (C : Addr) (cl : List (Str × Addr)) (fp : List Addr), PTs (X.blk s H scope (compEnvC scope cl C X.env) fp) ifs tt)
    (hk : ∀ (s : Shared) (H : Hp) (C : Addr) (cl : List (Str × Addr)) (fp : List Addr), PE (X.blk s H scope (compEnvC scope cl C X.env) fp) kx tk) (he : ∀ (s : Shared) (H : Hp) (C : Addr) (cl : List (Str × Addr)) (fp : List Addr), PE (X.blk s H scope (compEnvC scope cl C X.env) fp) vx tv) (hs : ∀ x, foldedSetIterable iter X.env x = pure x)
    (hi1 : ∀ (s : Shared) (H : Hp) (C : Addr) (cl : List (Str × Addr)) (fp : List Addr), PI (X.blk s H scope (compEnvC scope cl C X.env) fp) tg1 iter1 wi1)
    (hg1 : ∀ (s : Shared) (H : Hp) (C : Addr) (cl : List (Str × Addr)) (fp : List Addr), PG (X.blk s H scope (compEnvC scope cl C X.env) fp) tg1 g1)
    (ht1 : ∀ (s : Shared) (H : Hp) (C : Addr) (cl : List (Str × Addr)) (fp : List Addr), PTs (X.blk s H scope (compEnvC scope cl C X.env) fp) ifs1 tt1)
    (hs1 : ∀ env x, foldedSetIterable iter1 env x = pure x)
    (h : tDc2 wi g tt wi1 g1 tt1 tk tv (own.map (·.2)) vs1 σ H Q)
    (hRR : ∀ D C s' m H', Inv X pins σ H' s' → Q (.ref D) H' → s'.heap.Ns C m → FpOk X pins H' C → compPost (model X.prog X.w) X.A X.xe use Qf (.ref D) C (.ok .next) s') :
    wpAny (model X.prog X.w) X.A (comprehension (.DictComp kx vx [⟨tg, iter, ifs, 0⟩, ⟨tg1, iter1, ifs1, 0⟩] scope pos) scope X.env pos' newDict false (eval iter X.env) use) Qf X.xe s := by
  have hfree : ∀ y ∈ scope.names, y.2 = .free → ∃ c, X.env.cells.lookup y.1 = some c := fun y hy e => by
    rcases ok.free y hy e with k | k
    · exact I.ok.has _ (.inl k)
    · exact I.ok.has _ (.inr k)
  refine wpAny_comprehension_free (use := use) rfl hs (closure_ok hfree) ok.kind (fun y hy e => by rw [ok.uniq y hy, e])
    (thn (hi.run pins s σ H _ I h) fun xv s1 hx => thn hx fun itv s2 h2 => ?_)
  obtain ⟨it, fp, tn, J, H2, e, I2, T, st2, f2, q⟩ := h2
  subst e
  refine wpAny_newObj_type (newEnv_comp ?_)
  generalize hD : s2.heap.objs.size = D
  have hDn : H2 D = none := I2.hok.fresh (Nat.le_of_eq hD)
  obtain ⟨W, ⟨m0, w0⟩, turn⟩ := q D hDn
  -- the new list
  generalize hs3 : ({ s2 with heap := s2.heap.push { cls := .type "dict", data := .dict #[] } } : Shared) = s3
  have I3 : Inv X pins σ (upd H2 D (.dK [])) s3 := by
    rw [← hs3]
    refine I2.laid (t' := s2.toks) (fun b o e => Heap.get?_push_of_some _ e) (Nat.le_of_eq hD) ?_
    rw [← hD]
    exact dk_empty s2.heap I2.big
  have h3 : s3.heap = s2.heap.push { cls := .type "dict", data := .dict #[] } := by rw [← hs3]
  have sz : ∀ b ∈ fp, b < s2.heap.objs.size := fun b hb => by
    obtain ⟨o, e, _⟩ := T.obj _ _ st2 b hb
    exact Heap.lt_size e
  have f3 : ∀ b ∈ fp, FpOk X pins (upd H2 D (.dK [])) b ∧ b < s3.heap.objs.size := fun b hb => by
    have hlt := sz b hb
    refine ⟨⟨?_, (f2 b hb).2⟩, by rw [h3, Heap.size_push]; exact Nat.lt_succ_of_lt hlt⟩
    rw [upd_ne (by rw [← hD]; exact Nat.ne_of_lt hlt)]
    exact (f2 b hb).1
  have st3 : tn 0 s3.heap := T.keep _ _ _ st2 fun b _ o e => by rw [h3]; exact Heap.get?_push_of_some _ e
  have I4 := block_start I3 ok hN f3
  have pg := hg s3 (upd H2 D (.dK [])) s3.heap.objs.size (cellsFrom (s3.heap.objs.size + 1) scope.names (cloFrom X.env.cells scope.names [])) fp
  have pt := ht s3 (upd H2 D (.dK [])) s3.heap.objs.size (cellsFrom (s3.heap.objs.size + 1) scope.names (cloFrom X.env.cells scope.names [])) fp
  have pk := hk s3 (upd H2 D (.dK [])) s3.heap.objs.size (cellsFrom (s3.heap.objs.size + 1) scope.names (cloFrom X.env.cells scope.names [])) fp
  have pe := he s3 (upd H2 D (.dK [])) s3.heap.objs.size (cellsFrom (s3.heap.objs.size + 1) scope.names (cloFrom X.env.cells scope.names [])) fp
  have pi1 := hi1 s3 (upd H2 D (.dK [])) s3.heap.objs.size (cellsFrom (s3.heap.objs.size + 1) scope.names (cloFrom X.env.cells scope.names [])) fp
  have pg1 := hg1 s3 (upd H2 D (.dK [])) s3.heap.objs.size (cellsFrom (s3.heap.objs.size + 1) scope.names (cloFrom X.env.cells scope.names [])) fp
  have pt1 := ht1 s3 (upd H2 D (.dK [])) s3.heap.objs.size (cellsFrom (s3.heap.objs.size + 1) scope.names (cloFrom X.env.cells scope.names [])) fp
  show codeAny _ _ (.compStart (.DictComp kx vx [⟨tg, iter, ifs, 0⟩, ⟨tg1, iter1, ifs1, 0⟩] scope pos) 0 (.ref it) (.ref D) (compEnvC scope (cellsFrom (s3.heap.objs.size + 1) scope.names (cloFrom X.env.cells scope.names [])) s3.heap.objs.size X.env)) (compPost (model X.prog X.w) X.A X.xe use Qf (.ref D) s3.heap.objs.size) { s3 with heap := pushCells (s3.heap.push { cls := .type "dict", data := .dict #[] }) scope.names }
  have nfp : ∀ b ∈ fp, (upd H2 D (.dK [])) b = none := fun b hb => (f3 b hb).1.1
  generalize hce : compEnvC scope (cellsFrom (s3.heap.objs.size + 1) scope.names (cloFrom X.env.cells scope.names [])) s3.heap.objs.size X.env = ce at I4 pg pt pk pe pi1 pg1 pt1 ⊢
  have cL : ce.locals = s3.heap.objs.size := by subst hce; rfl
  generalize hH3 : upd H2 D (.dK []) = H3 at I3 I4 pg pt pk pe pi1 pg1 pt1 w0 nfp f3
  generalize hs4 : ({ s3 with heap := pushCells (s3.heap.push { cls := .type "dict", data := .dict #[] }) scope.names } : Shared) = s4 at I4 ⊢
  have st4 : tn 0 s4.heap := T.keep _ _ _ st3 fun b _ o e => by rw [← hs4]; exact pushCells_keeps _ _ _ _ (Heap.get?_push_of_some _ e)
  have stat : ∀ {σ' : St} {H' : Hp} {s' : Shared}, Inv (X.blk s3 H3 scope ce fp) [] σ' H' s' → (∀ b ∈ fp, H' b = none) → ∀ b ∈ fp, FpOk (X.blk s3 H3 scope ce fp) [] H' b := fun {σ' H' s'} I' hn b hb =>
    ⟨hn b hb, (I'.ok.exf b hb).1, I'.ok.exfs b hb, .inl hb, fun x c e => (I'.ok.exf b hb).2 x c e, fun p hp => absurd (show p ∈ ([] : List (Addr × Obj)) ++ [] from hp) (by simp)⟩
  have loop : codeAny (model X.prog X.w) X.A (.compLoop (.DictComp kx vx [⟨tg, iter, ifs, 0⟩, ⟨tg1, iter1, ifs1, 0⟩] scope pos) 0 (.ref it) (.ref D) ce) (compPost (model X.prog X.w) X.A X.xe use Qf (.ref D) s3.heap.objs.size) s4 := by
    refine dloop_out (hs1 ce) (fun n s' => ∃ i H', Inv (X.blk s3 H3 scope ce fp) [] (wipe σ (own.map (·.2))) H' s' ∧ tn i s'.heap ∧ (∀ b ∈ fp, H' b = none) ∧ W i n H') ?_ m0 ⟨0, H3, I4, st4, nfp, w0⟩
    rintro n s5 ⟨i, H5, I5, st5, n5, w5⟩
    rcases turn i n H5 w5 with ⟨stop, qq⟩ | ⟨go, Nx, hNx, step⟩
    · have td := T.done (X.blk s3 H3 scope ce fp) rfl rfl rfl hc i [] s5 _ H5 (fun _ _ => False) I5 (stat I5 n5) st5 stop
      refine thnF td fun r s6 ⟨hr, I6⟩ => ?_
      subst hr
      -- back in the def's context
      have I7 : Inv X pins σ H5 s6 := I3.call' (ch := fp) I6.os I6.base I6.hok I6.bare fun b hb => ⟨(f3 b hb).1.2.2.2.1, (f3 b hb).1.2.1, (f3 b hb).1.2.2.2.2.1, (f3 b hb).1.2.2.2.2.2⟩
      have nC : H5 s3.heap.objs.size = none := by
        have z : H5 ce.locals = none := I6.free
        rw [cL] at z
        exact z
      obtain ⟨m, hn, _⟩ := I6.loc
      have hn : s6.heap.Ns ce.locals m := hn
      rw [cL] at hn
      exact hRR D s3.heap.objs.size s6 m H5 I7 qq hn (I3.fpOk (Nat.le_refl _) nC)
    · have ti := T.item (X.blk s3 H3 scope ce fp) rfl rfl rfl hc i [] s5 _ H5 (fun _ _ => False) I5 (stat I5 n5) st5 go
      refine thnF ti fun r s6 ⟨u, hr, h6⟩ => ?_
      subst hr
      refine thnF h6 fun _ s7 ⟨x, H7, I7, r7, y7, st7, n7⟩ => ?_
      have I7' := I7.pinned (stat I7 n7) (T.obj _ _ st7)
      refine thnF (pg.run _ s7 _ H7 x u _ I7' r7 (step x H7 y7)) fun _ s8 ⟨σ8, H8, I8, hw8, q8⟩ => ?_
      refine thnF (pt.run _ s8 σ8 H8 _ I8 q8) fun b s9 ⟨H9, I9, q9⟩ => ?_
      -- the turn's end, from any slots that know what the block knew at its start
      have fin : ∀ {σ9 : St} {s' : Shared} {H' : Hp}, Inv (X.blk s3 H3 scope ce fp) ([] ++ pinsAt fp s7.heap) σ9 H' s' → (wipe σ (own.map (·.2))).length = σ9.length → (∀ (j : Nat) v, (wipe σ (own.map (·.2)))[j]? = some (some v) → σ9[j]? = some (some v)) → Nx H' →
          ∃ m, m < n ∧ ∃ i H', Inv (X.blk s3 H3 scope ce fp) [] (wipe σ (own.map (·.2))) H' s' ∧ tn i s'.heap ∧ (∀ b ∈ fp, H' b = none) ∧ W i m H' := fun {σ9 s' H'} I' hl hk nx => by
        obtain ⟨m', hm, w'⟩ := hNx H' nx
        have pin' : ∀ b ∈ fp, ∀ o, s7.heap.get? b = some o → s'.heap.get? b = some o ∧ H' b = none := fun b hb o e =>
          let z := I'.pin (b, o) (List.mem_append_right _ (List.mem_append_right _ (mem_pinsAt hb e)))
          ⟨z.1, z.2.1⟩
        refine ⟨m', hm, i + 1, H', (I'.unpinned (pins := [])).weak hl hk, T.keep _ _ _ st7 fun b hb o e => (pin' b hb o e).1, fun b hb => ?_, w'⟩
        obtain ⟨o, e, _⟩ := T.obj _ _ st7 b hb
        exact (pin' b hb o e).2
      have hl8 : (wipe σ (own.map (·.2))).length = σ8.length := by rw [← hw8, wipe_length]
      have hk8 : ∀ (j : Nat) v, (wipe σ (own.map (·.2)))[j]? = some (some v) → σ8[j]? = some (some v) := fun j v e => by
        rw [← hw8] at e
        exact (wipe_some e).1
      have hk9 : ∀ (j : Nat) v, (wipe σ (own.map (·.2)))[j]? = some (some v) → (wipe σ8 vs1)[j]? = some (some v) := fun j v e => by
        rw [← hw8] at e
        obtain ⟨e1, e2⟩ := wipe_some e
        rw [wipe_out fun z => e2 (hv j z)]
        exact e1
      cases b with
      | false =>
        simp only [Bool.false_eq_true, if_false] at q9 ⊢
        exact fin I9 hl8 hk8 q9
      | true =>
        simp only [if_true] at q9 ⊢
        refine thnF (pi1.run _ s9 σ8 H9 _ I9 q9) fun xv s10 hx => thnF hx fun itv s11 h11 => ?_
        obtain ⟨it1, fp1, tn1, J1, H11, e1, I11, T1, st11, f11, W1, ⟨m1, w1⟩, turn1⟩ := h11
        subst e1
        -- the inner loop
        have stat1 : ∀ {H' : Hp}, (∀ b ∈ fp1, H' b = none) → ∀ b ∈ fp1, FpOk (X.blk s3 H3 scope ce fp) ([] ++ pinsAt fp s7.heap) H' b := fun hn b hb => ⟨hn b hb, (f11 b hb).2⟩
        have loop1 : codeAny (model X.prog X.w) X.A (.compLoop (.DictComp kx vx [⟨tg, iter, ifs, 0⟩, ⟨tg1, iter1, ifs1, 0⟩] scope pos) 1 (.ref it1) (.ref D) ce)
            (fun r s' => match r with
              | .ok _ => ∃ m, m < n ∧ ∃ i H', Inv (X.blk s3 H3 scope ce fp) [] (wipe σ (own.map (·.2))) H' s' ∧ tn i s'.heap ∧ (∀ b ∈ fp, H' b = none) ∧ W i m H'
              | .error _ => False) s11 := by
          refine dloop_in (fun k s' => ∃ j H', Inv (X.blk s3 H3 scope ce fp) ([] ++ pinsAt fp s7.heap) (wipe σ8 vs1) H' s' ∧ tn1 j s'.heap ∧ (∀ b ∈ fp1, H' b = none) ∧ W1 j k H') ?_ m1 ⟨0, H11, I11.weak (wipe_length _ _) (fun j v e => (wipe_some e).1), st11, fun b hb => (f11 b hb).1, w1⟩
          rintro k s12 ⟨j, H12, I12, st12, n12, w12⟩
          rcases turn1 j k H12 w12 with ⟨stop1, nx1⟩ | ⟨go1, Nx1, hNx1, step1⟩
          · refine thnF (T1.done (X.blk s3 H3 scope ce fp) rfl rfl rfl hc j _ s12 (wipe σ8 vs1) H12 (fun _ _ => False) I12 (stat1 n12) st12 stop1) fun r s13 ⟨hr, I13⟩ => ?_
            subst hr
            exact fin I13 (hl8.trans (wipe_length σ8 vs1).symm) hk9 nx1
          · refine thnF (T1.item (X.blk s3 H3 scope ce fp) rfl rfl rfl hc j _ s12 (wipe σ8 vs1) H12 (fun _ _ => False) I12 (stat1 n12) st12 go1) fun r s13 ⟨u1, hr, h13⟩ => ?_
            subst hr
            refine thnF h13 fun _ s14 ⟨x1, H14, I14, r14, y14, st14, n14⟩ => ?_
            have I14' := I14.pinned (stat1 n14) (T1.obj _ _ st14)
            refine thnF (pg1.run _ s14 (wipe σ8 vs1) H14 x1 u1 _ I14' r14 (step1 x1 H14 y14)) fun _ s15 ⟨σ15, H15, I15, hw15, q15⟩ => ?_
            refine thnF (pt1.run _ s15 σ15 H15 _ I15 q15) fun b1 s16 ⟨H16, I16, q16⟩ => ?_
            have fin1 : ∀ {s' : Shared} {H' : Hp}, Inv (X.blk s3 H3 scope ce fp) (([] ++ pinsAt fp s7.heap) ++ pinsAt fp1 s14.heap) σ15 H' s' → Nx1 H' → ∃ m, m < k ∧ ∃ j H', Inv (X.blk s3 H3 scope ce fp) ([] ++ pinsAt fp s7.heap) (wipe σ8 vs1) H' s' ∧ tn1 j s'.heap ∧ (∀ b ∈ fp1, H' b = none) ∧ W1 j m H' := fun {s' H'} I' nx => by
              obtain ⟨m', hm, w'⟩ := hNx1 H' nx
              have pin' : ∀ b ∈ fp1, ∀ o, s14.heap.get? b = some o → s'.heap.get? b = some o ∧ H' b = none := fun b hb o e =>
                let z := I'.pin (b, o) (List.mem_append_right _ (List.mem_append_right _ (mem_pinsAt hb e)))
                ⟨z.1, z.2.1⟩
              refine ⟨m', hm, j + 1, H', I'.unpinned.weak (by rw [← hw15, wipe_length]) (fun j v e => by rw [← hw15] at e; exact (wipe_some e).1), T1.keep _ _ _ st14 fun b hb o e => (pin' b hb o e).1, fun b hb => ?_, w'⟩
              obtain ⟨o, e, _⟩ := T1.obj _ _ st14 b hb
              exact (pin' b hb o e).2
            cases b1 with
            | false =>
              simp only [Bool.false_eq_true, if_false] at q16 ⊢
              exact fin1 I16 q16
            | true =>
              simp only [if_true] at q16 ⊢
              refine thnF (pk.run _ s16 σ15 H16 _ I16 q16) fun z s17 ⟨yk, H17, I17, r17, q17⟩ => ?_
              refine thnF (pe.run _ s17 σ15 H17 _ I17 q17) fun z2 s18 ⟨yv, H18, I18, r18, kvs, key, ek, hD18, hz18, nx⟩ => ?_
              subst ek
              exact d_dictSet (X := X.blk s3 H3 scope ce fp) I18 hD18 hz18 r17 r18 fun s19 I19 => fin1 I19 nx
        exact dstart1_ok loop1 (T1.self X.A 0 _ _ _ st11 loop1)
  exact codeAny_compStart_dict loop (T.self X.A 0 _ _ _ st4 loop)
end
end L2.Pd
set_option maxHeartbeats 4000000
namespace L2.Pd
open PySem PySem.Spec PyProof.Rows
def dc2L (g : D → M Unit) (tt : M Bool) (mi1 : M (List D)) (g1 : D → M Unit) (tt1 : M Bool) (tk tv : M DB) (vs vs1 : List Nat) : List D → List L2.Key → List D → M (List L2.Key × List D)
  | [], ks, ds => pure (ks, ds)
  | d :: xs, ks, ds => do
    wipeM vs
    g d
    let b ← tt
    if b then (do
      let es ← mi1
      let r ← dcL g1 tt1 tk tv vs1 es ks ds
      dc2L g tt mi1 g1 tt1 tk tv vs vs1 xs r.1 r.2) else dc2L g tt mi1 g1 tt1 tk tv vs vs1 xs ks ds
def dc2M (mi : M (List D)) (g : D → M Unit) (tt : M Bool) (mi1 : M (List D)) (g1 : D → M Unit) (tt1 : M Bool) (tk tv : M DB) (vs vs1 : List Nat) : M DB := do
  let ds ← mi
  fun s => if freeE s.env vs then (match dc2L g tt mi1 g1 tt1 tk tv vs vs1 ds [] [] s with
    | .ok r s2 => .ok (.dct r.1 r.2, true) { s2 with env := restE s.env s2.env vs }
    | .ex e s2 => .ex e s2
    | .no => .no) else .no
/-- what holds between two turns of the inner for -/
structure DcJ (K : PySem.W.Frag) (F : Fm) (T : List Addr) (bx1 : Bxs) (s1 : S) (σ : St) (H1 : Hp) (bx4 : Bxs) (s4 : S) (σ2 : St) (H4 : Hp) (vs1 : List Nat) (D : Addr) (bx : Bxs) (s : S) (H : Hp) (ks : List L2.Key) (acc : List V) (accD : List Pd.D) : Prop where
  rel : Rel K F bx (D :: T) { s with env := wipeE s.env vs1 } (wipe σ2 vs1) H
  at_ : H D = some (.dK (ks.zip acc))
  kl : ks.length = accD.length
  rep : RepL K bx (Wf F { s with env := wipeE s.env vs1 } (wipe σ2 vs1) (D :: T)) H accD acc
  tr : ∀ d v, Rep K bx1 (Wf F s1 σ T) H1 d v → Rep K bx (Wf F { s with env := wipeE s.env vs1 } (wipe σ2 vs1) (D :: T)) H d v
  tr4 : ∀ d v, Rep K bx4 (Wf F s4 σ2 (D :: T)) H4 d v → Rep K bx (Wf F { s with env := wipeE s.env vs1 } (wipe σ2 vs1) (D :: T)) H d v
  tk : ∀ a, H a = none → H1 a = none
  pre : ∀ (n : Nat) (a : Addr), bx1[n]? = some a → bx[n]? = some a
  kt : ∀ a ∈ T, ∀ o, H1 a = some o → H a = some o
  len : s.env.length = σ2.length
theorem rdT.dc2 {K : PySem.W.Frag} {mi mi1 : M (List D)} {g g1 : D → M Unit} {tt tt1 : M Bool} {tk tv : M DB} {vs ws vs1 ws1 : List Nat} {σ : St} {H : Hp} {Q : VK} (hws : ∀ j ∈ ws, j ∈ vs) (hws1 : ∀ j ∈ ws1, j ∈ vs1) (hv1 : ∀ j ∈ vs1, j ∈ vs)
    (h : rdT K (dc2M mi g tt mi1 g1 tt1 tk tv vs vs1) σ H Q) :
    tDc2 (rdI K mi) (rdG K g ws) (rdB K tt) (rdI K mi1) (rdG K g1 ws1) (rdB K tt1) (rdT K tk) (rdT K tv) vs vs1 σ H Q := by
  obtain ⟨F, T, bx, s, r, t, s', e, k⟩ := h
  obtain ⟨ds, s1, e1, e⟩ := bind_ok e
  split at e
  · rename_i fr
    cases q : dc2L g tt mi1 g1 tt1 tk tv vs vs1 ds [] [] s1 with
    | ex _ _ => rw [q] at e; cases e
    | no => rw [q] at e; cases e
    | ok res s2 =>
      rw [q] at e
      cases e
      · skip
        refine ⟨F, T, bx, s, r, ds, s1, e1, fun J bx1 H1 x1 y D hD => ?_⟩
        have hDT : D ∉ T := fun z => by
          obtain ⟨_, _, _, xs, p, _⟩ := x1.rel.tmp D z
          rw [hD] at p; cases p
        have g0 : Rel K F bx1 (D :: T) s1 σ (upd H1 D (.dK [])) := x1.rel.grow (Grow.new hD) fun a ha => (List.mem_cons.mp ha).elim (fun z => .inr (by subst z; exact ⟨hD, _, upd_same, .dK⟩)) .inl
        have I0 : DcI K F T bx1 s1 σ H1 vs D bx1 s1 (upd H1 D (.dK [])) [] [] [] := by
          refine ⟨g0.wipe vs, upd_same, rfl, .nil, fun d v h => ?_, fun a h => (Grow.new hD).none h, fun _ _ h => h, fun a ha o h => Grow.new hD a o h, x1.rel.len⟩
          refine Rep.less wf_wipe (h.grow (Grow.new hD) fun a z => ?_)
          rcases z with z | z | z
          · exact .inl (.inl z)
          · exact .inl (.inr (.inl z))
          · exact (List.mem_cons.mp z).elim (fun z => .inr (by rw [z]; exact hD)) fun z => .inl (.inr (.inr z))
        refine ⟨fun i m Hi => i ≤ ds.length ∧ m = ds.length - i ∧ ∃ bxi si ks acc accD, DcI K F T bx1 s1 σ H1 vs D bxi si Hi ks acc accD ∧ dc2L g tt mi1 g1 tt1 tk tv vs vs1 (ds.drop i) ks accD si = .ok res s2, ⟨ds.length, Nat.zero_le _, by simp, bx1, s1, [], [], [], I0, by simpa using q⟩, ?_⟩
        rintro i m Hi ⟨hi, rfl, bxi, si, ks, acc, accD, I, ei⟩
        obtain ⟨yg, ys⟩ := y bxi _ Hi I.tr I.rel.fz
        by_cases hlt : i < ds.length
        · obtain ⟨yg1, yg2⟩ := yg i hlt
          refine .inr ⟨yg1, fun H' => ∃ bx' s3 ks' acc' accD', DcI K F T bx1 s1 σ H1 vs D bx' s3 H' ks' acc' accD' ∧ dc2L g tt mi1 g1 tt1 tk tv vs vs1 (ds.drop (i + 1)) ks' accD' s3 = .ok res s2, fun H' ⟨bx', s3, ks', acc', accD', I', e'⟩ => ⟨ds.length - (i + 1), by omega, hlt, rfl, bx', s3, ks', acc', accD', I', e'⟩, fun x H' hy => ?_⟩
          obtain ⟨gr, rep⟩ := yg2 x H' hy
          have rp := rep _ (List.getElem?_eq_getElem hlt)
          rw [List.drop_eq_getElem_cons hlt] at ei
          obtain ⟨_, sw, ew, ei⟩ := bind_ok (m := wipeM vs) ei
          cases ew
          obtain ⟨_, sg, eg, ei⟩ := bind_ok (m := g ds[i]) ei
          obtain ⟨b, sb, eb, ei⟩ := bind_ok (m := tt) ei
          have xg : Stp K F (D :: T) bxi { si with env := wipeE si.env vs } (wipe σ vs) Hi bxi (D :: T) { si with env := wipeE si.env vs } (wipe σ vs) H' := Stp.grow I.rel gr (fun _ z => .inl z) (fun _ z => z)
          refine ⟨F, D :: T, bxi, _, ds[i], xg.rel, rp, sg, eg, fun bx2 σ2 H2 x2 hσ hl2 => ?_⟩
          have hw : wipe σ2 vs = wipe σ vs := by
            rw [← wipe_wipe (σ := σ)]
            exact wipe_eq hl2 fun j hj => hσ j fun z => hj (hws j z)
          have xx := xg.trans x2
          have fin : ∀ {bx3 : Bxs} {s3 : S} {H3 : Hp}, Stp K F (D :: T) bxi { si with env := wipeE si.env vs } (wipe σ vs) Hi bx3 (D :: T) s3 σ2 H3 → DcI K F T bx1 s1 σ H1 vs D bx3 s3 H3 ks acc accD := fun {bx3 s3 H3} x3 => by
            have rw3 := x3.rel.wipe vs
            rw [hw] at rw3
            have wf3 : ∀ b, Wf F { s3 with env := wipeE s3.env vs } (wipe σ vs) (D :: T) b → Wf F s3 σ2 (D :: T) b := by rw [← hw]; exact wf_wipe
            refine ⟨rw3, x3.kt D List.mem_cons_self _ I.at_, I.kl, (x3.trL _ _ I.rep).less wf3, fun d v h => (x3.tr d v (I.tr d v h)).less wf3, fun a h => I.tk a (x3.tk a h), fun n a h => x3.pre n a (I.pre n a h), fun a ha o h => x3.kt a (List.mem_cons_of_mem _ ha) o (I.kt a ha o h), ?_⟩
            rw [x3.rel.len, hl2, wipe_length]
          refine ⟨hw, F, D :: T, bx2, sg, x2.rel, b, sb, eb, fun bx3 H3 x3 => ?_⟩
          have x3' := xx.trans x3
          cases b with
          | false =>
            refine iteF ?_
            exact ⟨bx3, sb, ks, acc, accD, fin x3', ei⟩
          | true =>
            refine iteT ?_
            obtain ⟨es, s4, e4, ei⟩ := bind_ok (m := mi1) ei
            obtain ⟨r1, s5, e5, ei⟩ := bind_ok (m := dcL g1 tt1 tk tv vs1 es ks accD) ei
            refine ⟨F, D :: T, bx3, sb, x3.rel, es, s4, e4, fun J1 bx4 H4 x4 y1 => ?_⟩
            have x4' := x3'.trans x4
            have L0 : DcJ K F T bx1 s1 σ H1 bx4 s4 σ2 H4 vs1 D bx4 s4 H4 ks acc accD := by
              refine ⟨x4'.rel.wipe vs1, x4'.kt D List.mem_cons_self _ I.at_, I.kl, (x4'.trL _ _ I.rep).less wf_wipe, fun d v h => (x4'.tr d v (I.tr d v h)).less wf_wipe, fun d v h => h.less wf_wipe, fun a h => I.tk a (x4'.tk a h), fun n a h => x4'.pre n a (I.pre n a h), fun a ha o h => x4'.kt a (List.mem_cons_of_mem _ ha) o (I.kt a ha o h), ?_⟩
              exact x4'.rel.len
            refine ⟨fun j k Hj => j ≤ es.length ∧ k = es.length - j ∧ ∃ bxj sj ksj accj accDj, DcJ K F T bx1 s1 σ H1 bx4 s4 σ2 H4 vs1 D bxj sj Hj ksj accj accDj ∧ dcL g1 tt1 tk tv vs1 (es.drop j) ksj accDj sj = .ok r1 s5, ⟨es.length, Nat.zero_le _, by simp, bx4, s4, ks, acc, accD, L0, by simpa using e5⟩, ?_⟩
            rintro j m Hj ⟨hj, rfl, bxj, sj, ksj, accj, accDj, L, ej⟩
            obtain ⟨zg, zs⟩ := y1 bxj _ Hj L.tr4 L.rel.fz
            by_cases hlj : j < es.length
            · obtain ⟨zg1, zg2⟩ := zg j hlj
              refine .inr ⟨zg1, fun H' => ∃ bx' s3 ks' acc' accD', DcJ K F T bx1 s1 σ H1 bx4 s4 σ2 H4 vs1 D bx' s3 H' ks' acc' accD' ∧ dcL g1 tt1 tk tv vs1 (es.drop (j + 1)) ks' accD' s3 = .ok r1 s5, fun H' ⟨bx', s3, ks', acc', accD', I', e'⟩ => ⟨es.length - (j + 1), by omega, hlj, rfl, bx', s3, ks', acc', accD', I', e'⟩, fun x H' hy => ?_⟩
              obtain ⟨gr, rep⟩ := zg2 x H' hy
              have rp := rep _ (List.getElem?_eq_getElem hlj)
              rw [List.drop_eq_getElem_cons hlj] at ej
              obtain ⟨_, sw, ew, ej⟩ := bind_ok (m := wipeM vs1) ej
              cases ew
              obtain ⟨_, sg1, eg1, ej⟩ := bind_ok (m := g1 es[j]) ej
              obtain ⟨b1, sb1, eb1, ej⟩ := bind_ok (m := tt1) ej
              have xg1 : Stp K F (D :: T) bxj { sj with env := wipeE sj.env vs1 } (wipe σ2 vs1) Hj bxj (D :: T) { sj with env := wipeE sj.env vs1 } (wipe σ2 vs1) H' := Stp.grow L.rel gr (fun _ z => .inl z) (fun _ z => z)
              refine ⟨F, D :: T, bxj, _, es[j], xg1.rel, rp, sg1, eg1, fun bx5 σ3 H5 x5 hσ3 hl3 => ?_⟩
              have hw1 : wipe σ3 vs1 = wipe σ2 vs1 := by
                rw [← wipe_wipe (σ := σ2)]
                exact wipe_eq hl3 fun j hj => hσ3 j fun z => hj (hws1 j z)
              have xx1 := xg1.trans x5
              have fin1 : ∀ {bx3 : Bxs} {s3 : S} {H3 : Hp}, Stp K F (D :: T) bxj { sj with env := wipeE sj.env vs1 } (wipe σ2 vs1) Hj bx3 (D :: T) s3 σ3 H3 → DcJ K F T bx1 s1 σ H1 bx4 s4 σ2 H4 vs1 D bx3 s3 H3 ksj accj accDj := fun {bx3 s3 H3} x3 => by
                have rw3 := x3.rel.wipe vs1
                rw [hw1] at rw3
                have wf3 : ∀ b, Wf F { s3 with env := wipeE s3.env vs1 } (wipe σ2 vs1) (D :: T) b → Wf F s3 σ3 (D :: T) b := by rw [← hw1]; exact wf_wipe
                refine ⟨rw3, x3.kt D List.mem_cons_self _ L.at_, L.kl, (x3.trL _ _ L.rep).less wf3, fun d v h => (x3.tr d v (L.tr d v h)).less wf3, fun d v h => (x3.tr d v (L.tr4 d v h)).less wf3, fun a h => L.tk a (x3.tk a h), fun n a h => x3.pre n a (L.pre n a h), fun a ha o h => x3.kt a (List.mem_cons_of_mem _ ha) o (L.kt a ha o h), ?_⟩
                rw [x3.rel.len, hl3, wipe_length]
              refine ⟨hw1, F, D :: T, bx5, sg1, x5.rel, b1, sb1, eb1, fun bx6 H6 x6 => ?_⟩
              have x6' := xx1.trans x6
              cases b1 with
              | false =>
                refine iteF ?_
                exact ⟨bx6, sb1, ksj, accj, accDj, fin1 x6', ej⟩
              | true =>
                refine iteT ?_
                obtain ⟨y', s7, e7, ej⟩ := bind_ok (m := tk) ej
                obtain ⟨z', s8, e8, ej⟩ := bind_ok (m := tv) ej
                cases hkey : keyOf y'.1 with
                | none => simp only [hkey] at ej; cases ej
                | some key =>
                simp only [hkey] at ej
                split at ej
                rotate_left
                · cases ej
                rename_i hlen
                refine ⟨F, D :: T, bx6, sb1, x6.rel, y', s7, e7, fun v bx7 H7 x7 q7 => ?_⟩
                have ev := keyOf_rep (q7.rep x7) hkey
                refine ⟨F, D :: T, bx7, s7, x7.drop.rel, z', s8, e8, fun v8 bx8 H8 x8 q8 => ?_⟩
                have rv := q8.rep x8
                have x9 := (x6'.trans x7.drop).trans x8.drop
                have L7 := fin1 x9
                have hal : ksj.length = accj.length := by rw [L7.kl, L7.rep.length]
                refine ⟨ksj.zip accj, key, ev, L7.at_, by rw [List.length_zip, hal]; omega, bx8, s8, putKs ksj key, putVs ksj accj key v8, putDs ksj accDj key z'.1, ?_, ej⟩
                obtain ⟨rel5, keep5⟩ := L7.rel.setTmp (u' := .dK (L2.putK (ksj.zip accj) key v8)) List.mem_cons_self L7.at_ .dK .dK
                have tr5 : ∀ d u', Rep K bx8 (Wf F { s8 with env := wipeE s8.env vs1 } (wipe σ2 vs1) (D :: T)) H8 d u' → Rep K bx8 (Wf F { s8 with env := wipeE s8.env vs1 } (wipe σ2 vs1) (D :: T)) (upd H8 D (.dK (L2.putK (ksj.zip accj) key v8))) d u' := fun d u' h => Rep.to keep5 (fun _ z => .inl z) (fun _ z => .inl z) (fun _ _ z => z) d u' h
                have trL5 : ∀ d v', RepL K bx8 (Wf F { s8 with env := wipeE s8.env vs1 } (wipe σ2 vs1) (D :: T)) H8 d v' → RepL K bx8 (Wf F { s8 with env := wipeE s8.env vs1 } (wipe σ2 vs1) (D :: T)) (upd H8 D (.dK (L2.putK (ksj.zip accj) key v8))) d v' := fun d v' h => RepL.to keep5 (fun _ z => .inl z) (fun _ z => .inl z) (fun _ _ z => z) d v' h
                have wf4 : ∀ b, Wf F { s8 with env := wipeE s8.env vs1 } (wipe σ2 vs1) (D :: T) b → Wf F s8 σ3 (D :: T) b := by rw [← hw1]; exact wf_wipe
                refine ⟨rel5, by rw [upd_same, zip_put hal], put_len L7.kl, put_rep (trL5 _ _ L7.rep) (tr5 _ _ (rv.less wf4)), fun d u h => tr5 d u (L7.tr d u h), fun d u h => tr5 d u (L7.tr4 d u h), fun a h => L7.tk a ?_, L7.pre, fun a ha o h => ?_, L7.len⟩
                · by_cases hb : a = D
                  · rw [hb, upd_same] at h; cases h
                  · rwa [upd_ne hb] at h
                · rw [upd_ne (show a ≠ D from fun z => hDT (by rw [← z]; exact ha))]
                  exact L7.kt a ha o h
            · have ej' : j = es.length := by omega
              subst ej'
              rw [List.drop_length] at ej
              cases ej
              refine .inl ⟨zs, bxj, s5, ksj, accj, accDj, ?_, ei⟩
              have rw5 := L.rel.wipe vs
              have hw5 : wipe (wipe σ2 vs1) vs = wipe σ vs := by
                rw [← hw]
                exact wipe_eq (wipe_length _ _) fun j hj => wipe_out fun z => hj (hv1 j z)
              have he5 : wipeE (wipeE s5.env vs1) vs = wipeE s5.env vs := wipeE_sub hv1
              have wf5 : ∀ b, Wf F { s5 with env := wipeE s5.env vs } (wipe σ vs) (D :: T) b → Wf F { s5 with env := wipeE s5.env vs1 } (wipe σ2 vs1) (D :: T) b := by
                have := wf_wipe (F := F) (T := D :: T) (s := { s5 with env := wipeE s5.env vs1 }) (σ := wipe σ2 vs1) (vs := vs)
                simp only [he5, hw5] at this
                exact this
              simp only [he5, hw5] at rw5
              refine ⟨rw5, L.at_, L.kl, L.rep.less wf5, fun d v h => (L.tr d v h).less wf5, L.tk, L.pre, L.kt, ?_⟩
              rw [L.len, hl2, wipe_length]
        · have e : i = ds.length := by omega
          subst e
          rw [List.drop_length] at ei
          cases ei
          refine .inl ⟨ys, ?_⟩
          have own2 : ∀ b, Own { s2 with env := restE s1.env s2.env vs } σ b → Own { s2 with env := wipeE s2.env vs } (wipe σ vs) b := by
            rintro b ⟨j, d, z1, z2⟩
            rcases restE_look z1 with ⟨h1, h2⟩ | ⟨h1, h2⟩
            · exact absurd h2 (freeE_at fr h1)
            · have h3 : (wipe σ vs)[j]? = some (some (V.ref b)) := by rw [wipe_out h1]; exact z2
              exact ⟨j, d, by show (wipeE s2.env vs)[j]? = _; rw [wipeE_out h1]; exact h2, h3⟩
          have wf2 : ∀ b, Wf F { s2 with env := restE s1.env s2.env vs } σ (D :: T) b → Wf F { s2 with env := wipeE s2.env vs } (wipe σ vs) (D :: T) b := fun b z => by
            rcases z with z | z | z
            · exact .inl z
            · exact .inr (.inl (own2 b z))
            · exact .inr (.inr z)
          have wout : ∀ (j : Nat) (x : DB), j ∉ vs → s2.env[j]? = some (some x) → (wipeE s2.env vs)[j]? = some (some x) := fun j x hj hx => by
            rw [wipeE_out hj]; exact hx
          have R := I.rel
          have rel : Rel K F bxi (D :: T) { s2 with env := restE s1.env s2.env vs } σ Hi := by
            refine ⟨?_, R.w0, R.wb, fun j d p => ?_, fun j d p => ?_, fun j l d d' a p1 p2 p3 p4 => ?_, R.box, R.fr, R.tmp, R.nb, R.pre⟩
            · show (restE s1.env s2.env vs).length = _
              rw [restE_len]; exact I.len
            · rcases restE_look p with ⟨h1, h2⟩ | ⟨h1, h2⟩
              · obtain ⟨v, p1, p2⟩ := x1.rel.sh j d h2
                exact ⟨v, p1, (I.tr _ _ p2).less wf2⟩
              · obtain ⟨v, p1, p2⟩ := R.sh j d (wout j _ h1 h2)
                exact ⟨v, by rw [wipe_out h1] at p1; exact p1, p2.less wf2⟩
            · rcases restE_look p with ⟨h1, h2⟩ | ⟨h1, h2⟩
              · exact absurd h2 (freeE_at fr h1)
              · obtain ⟨a, xs, ds', o, p1, p2, p3, p4, p5⟩ := R.ow j d (wout j _ h1 h2)
                exact ⟨a, xs, ds', o, p1, by rw [wipe_out h1] at p2; exact p2, p3, p4.less wf2, p5⟩
            · rcases restE_look p1 with ⟨h1, h2⟩ | ⟨h1, h2⟩
              · exact absurd h2 (freeE_at fr h1)
              · rcases restE_look p2 with ⟨h3, h4⟩ | ⟨h3, h4⟩
                · exact absurd h4 (freeE_at fr h3)
                · exact R.inj j l d d' a (wout j _ h1 h2) (wout l _ h3 h4) (by rw [wipe_out h1]; exact p3) (by rw [wipe_out h3]; exact p4)
          refine k (.ref D) bxi Hi (x1.trans ⟨rel, fun d v h => (I.tr d v h).less wf2, I.tk, I.pre, I.kt, fun a ha => List.mem_cons_of_mem _ ha⟩) ⟨D, acc, accD, _, .inr ⟨ks, rfl, I.kl, rfl⟩, rfl, I.at_, I.rep.less wf2, fun z => ?_, hDT⟩
          obtain ⟨j, d, z1, z2⟩ := z
          obtain ⟨a, xs, ds', _, p1, p2, p3, p4, p5, p6, _⟩ := rel.ow j d z1
          rw [z2] at p2
          cases p2
          exact p6 List.mem_cons_self
  · cases e
end L2.Pd
set_option maxHeartbeats 4000000
namespace L2.Pd
open PySem PySem.Spec PyProof.Rows
section
variable {X : Cx}
theorem pe_dc2 {kx vx tg iter tg1 iter1 : Expr} {ifs ifs1 : List Expr} {scope : Scope} {own : List (Str × Nat)} {vs1 : List Nat} {pos : Pos} {wi wi1 : TI} {g g1 : TG} {tt tt1 : TT} {tk tv : TE} (hc : X.calm = true) (hN : X.N.Nodup) (hi : PI X tg iter wi) (ok : BlkOk X.N X.env.scope scope own) (hv : ∀ i ∈ vs1, i ∈ own.map (·.2))
    (hg : Blk X scope fun Y => PG Y tg g) (ht : Blk X scope fun Y => PTs Y ifs tt) (hi1 : Blk X scope fun Y => PI Y tg1 iter1 wi1) (hg1 : Blk X scope fun Y => PG Y tg1 g1) (ht1 : Blk X scope fun Y => PTs Y ifs1 tt1)
    (hk : Blk X scope fun Y => PE Y kx tk) (he : Blk X scope fun Y => PE Y vx tv) (hs : ∀ x, foldedSetIterable iter X.env x = pure x := by intro _; rfl) (hs1 : ∀ env x, foldedSetIterable iter1 env x = pure x := by intro _ _; rfl) :
    PE X (.DictComp kx vx [⟨tg, iter, ifs, 0⟩, ⟨tg1, iter1, ifs1, 0⟩] scope pos) (tDc2 wi g tt wi1 g1 tt1 tk tv (own.map (·.2)) vs1) := by
  refine ⟨fun pins s σ H Q I h => ?_⟩
  rw [arm_eval_DictComp]
  refine dc2_core hc hN I hi ok hv hg ht hk he hs hi1 hg1 ht1 hs1 h fun D C s' m H' I' q hn f => ⟨m, hn, fun h'' sb => ?_⟩
  obtain ⟨f0, f1, f2, f3, f4, f5⟩ := f
  exact ⟨.ref D, H', I'.turned (t' := s'.toks) (fun b o hb e => (sb.2 b hb).trans e) f0 f1 f3 f4 f5, rfl, q⟩
end
section
variable {X : Cx} {kx vx tg iter tg1 iter1 c : Expr} {scope : Scope} {own : List (Str × Nat)} {pos : Pos} {mi mi1 : M (List D)} {g g1 : D → M Unit} {tt : M Bool} {tk tv : M DB} {ws ws1 vs1 : List Nat}
/-- {k: v for tg in iter if c for tg1 in iter1} -/
theorem se_dc2If (hc : X.calm = true) (hN : X.N.Nodup) (hi : SI X tg iter mi) (ok : BlkOk X.N X.env.scope scope own) (hws : ∀ j ∈ ws, j ∈ own.map (·.2)) (hws1 : ∀ j ∈ ws1, j ∈ vs1) (hv1 : ∀ j ∈ vs1, j ∈ own.map (·.2))
    (hg : Blk X scope fun Y => SG Y tg g ws) (ht : Blk X scope fun Y => SB Y c tt) (hi1 : Blk X scope fun Y => SI Y tg1 iter1 mi1) (hg1 : Blk X scope fun Y => SG Y tg1 g1 ws1) (hk : Blk X scope fun Y => SE Y kx tk) (he : Blk X scope fun Y => SE Y vx tv)
    (hs : ∀ x, foldedSetIterable iter X.env x = pure x := by intro _; rfl) (hs1 : ∀ env x, foldedSetIterable iter1 env x = pure x := by intro _ _; rfl) : SE X (.DictComp kx vx [⟨tg, iter, [c], 0⟩, ⟨tg1, iter1, [], 0⟩] scope pos) (dc2M mi g tt mi1 g1 noT tk tv (own.map (·.2)) vs1) :=
  PE.weak (pe_dc2 (wi := rdI X.K mi) (g := rdG X.K g ws) (tt := rdB X.K tt) (wi1 := rdI X.K mi1) (g1 := rdG X.K g1 ws1) (tt1 := rdB X.K noT) (tk := rdT X.K tk) (tv := rdT X.K tv) hc hN hi ok hv1 hg (fun s H C cl fp => pts_one (ht s H C cl fp)) hi1 hg1
    (fun s H C cl fp => ⟨fun pins s' σ H' Q I q => (pts_nil (X := X.blk s H scope (compEnvC scope cl C X.env) fp)).run pins s' σ H' Q I q.yes⟩) hk he hs hs1) fun _ _ _ h => rdT.dc2 hws hws1 hv1 h
end
end L2.Pd
set_option maxHeartbeats 4000000
namespace L2.Pd
open PySem PySem.Spec PyProof.Rows
def lookD (ks : List L2.Key) (ds : List D) (k : L2.Key) : Option D := ((ks.zip ds).find? fun p => decide (p.1 = k)).map (·.2)
theorem look_rep {K : PySem.W.Frag} {bx : Bxs} {W : Wd} {H : Hp} {k : L2.Key} : ∀ {ks : List L2.Key} {ds : List D} {xs : List V}, RepL K bx W H ds xs → (lookD ks ds k = none ∧ L2.valV (ks.zip xs) k = none) ∨ ∃ d v, lookD ks ds k = some d ∧ L2.valV (ks.zip xs) k = some v ∧ Rep K bx W H d v
  | ks, [], xs, h => by rw [h.unnil]; cases ks <;> exact .inl ⟨rfl, rfl⟩
  | [], d :: ds, xs, h => .inl ⟨rfl, rfl⟩
  | j :: ks, d :: ds, xs, h => by
    obtain ⟨x, xs', rfl, h1, h2⟩ := h.uncons
    by_cases e : j = k
    · exact .inr ⟨d, x, by simp [lookD, e], by simp [L2.valV, e], h1⟩
    · rcases look_rep (k := k) (ks := ks) h2 with ⟨a, b⟩ | ⟨d', v, a, b, c⟩
      · exact .inl ⟨by simpa [lookD, e] using a, by simpa [L2.valV, e] using b⟩
      · exact .inr ⟨d', v, by simpa [lookD, e] using a, by simpa [L2.valV, e] using b, c⟩
def dgetD : D → D → Option DB
  | .dct ks ds, y => (keyOf y).bind fun k => (lookD ks ds k).map fun d => (d, false)
  | _, _ => none
def dgetM (i : Nat) (mk : M DB) : M DB := do
  let _ ← peek i
  let y ← mk
  let d ← peek i
  lift (dgetD d y.1)
section
variable {X : Cx} {b c : Expr} {mb mc : M DB} {x : Str} {p pos apos cpos : Pos}
theorem se_dget (i : Nat) (hu : X.A.units + 64 < cLine) (hb : SE X b mb) (hN : X.N[i]? = some x := by rfl) (hv : Vis X.env.scope x := by first | exact Or.inl rfl | exact Or.inr (Or.inl rfl) | exact Or.inr (Or.inr rfl)) (hd : (x == ("__debug__" : Str)) = false := by decide)
    (hcd : (x == ("__classdict__" : Str)) = false := by decide) (hs : NoSl b := by exact fun _ _ => rfl) : SE X (.Subscript (.Name x p) b pos) (dgetM i mb) :=
  PE.weak (pe_dget (show X.A.units + 1 < cLine by omega) (pe_var hN hv hd hcd) hb.d hs) fun σ H Q h => by
    obtain ⟨F, T, bx, s, r, t, s', e, k⟩ := h
    obtain ⟨d0, s1, e1, f1⟩ := bind_ok e
    obtain ⟨rfl, b0, h0⟩ := peek_ok e1
    obtain ⟨y, s2, e2, f2⟩ := bind_ok f1
    obtain ⟨d, s3, e3, f3⟩ := bind_ok f2
    obtain ⟨rfl, b1, h1⟩ := peek_ok e3
    obtain ⟨e4, rfl⟩ := lift_ok f3
    obtain ⟨v, hσ, _⟩ := r.peek h0
    refine ⟨v, hσ, F, T, bx, s1, r, y.1, s', by rw [bind_run, e2]; rfl, fun w bx1 H1 x1 q1 => ?_⟩
    obtain ⟨v', hσ', hO⟩ := x1.rel.peek h1
    rw [hσ] at hσ'; cases hσ'
    revert hO
    cases d with
    | dct ks ds =>
      intro hO
      have e4 : ((keyOf y.1).bind fun k => (lookD ks ds k).map fun d => (d, false)) = some t := e4
      obtain ⟨key, ek, e5⟩ := Option.bind_eq_some_iff.mp e4
      obtain ⟨d', ed, rfl⟩ := Option.map_eq_some_iff.mp e5
      obtain ⟨a, xs, rfl, hl, hR, hr⟩ := hO.dct
      rcases look_rep (k := key) (ks := ks) hr with ⟨a1, _⟩ | ⟨d2, v2, a1, a2, a3⟩
      · rw [a1] at ed; cases ed
      · rw [a1] at ed; cases ed
        refine ⟨a, v2, rfl, .inl ⟨_, key, hR, keyOf_rep q1 ek, a2.symm⟩, ?_⟩
        obtain ⟨y2, z⟩ := ResN.res x1.rel Grow.refl (ResN.old (K := X.K) (bx := bx1) (W := Wf F s' σ T) a3)
        exact k _ bx1 H1 (x1.trans y2) z
    | _ => cases e4
def isDD : D → Option DB
  | .dct _ _ => some (.non, false)
  | _ => none
def dget1D : D → D → Option DB
  | .dct ks ds, y => (keyOf y).map fun k => ((lookD ks ds k).getD .non, false)
  | _, _ => none
def dget2D : D → D → D → Option DB
  | .dct ks ds, y, z => (keyOf y).map fun k => ((lookD ks ds k).getD z, false)
  | _, _, _ => none
def dget1M (i : Nat) (mk : M DB) : M DB := do
  let d0 ← peek i
  let _ ← lift (isDD d0)
  let y ← mk
  let d ← peek i
  lift (dget1D d y.1)
def dget2M (i : Nat) (mk mz : M DB) : M DB := do
  let d0 ← peek i
  let _ ← lift (isDD d0)
  let y ← mk
  let z ← mz
  let d ← peek i
  lift (dget2D d y.1 z.1)
theorem isDD_ok {d : D} {t : DB} (h : isDD d = some t) : ∃ ks ds, d = .dct ks ds := by
  cases d with
  | dct ks ds => exact ⟨ks, ds, rfl⟩
  | _ => cases h
theorem se_dget1 (i : Nat) (hu : X.A.units + 64 < cLine) (hb : SE X b mb) (hN : X.N[i]? = some x := by rfl) (hv : Vis X.env.scope x := by first | exact Or.inl rfl | exact Or.inr (Or.inl rfl) | exact Or.inr (Or.inr rfl)) (hd : (x == ("__debug__" : Str)) = false := by decide)
    (hcd : (x == ("__classdict__" : Str)) = false := by decide) (m : M1 X (.Name x p) "get" apos b cpos := by exact ⟨rfl, rfl, rfl, rfl⟩) : SE X (.Call (.Attribute (.Name x p) "get" apos) [b] [] cpos) (dget1M i mb) :=
  PE.weak (pe_dget1 (show X.A.units + 1 < cLine by omega) (pe_var hN hv hd hcd) hb.d m) fun σ H Q h => by
    obtain ⟨F, T, bx, s, r, t, s', e, k⟩ := h
    obtain ⟨d0, s1, e1, f1⟩ := bind_ok e
    obtain ⟨rfl, b0, h0⟩ := peek_ok e1
    obtain ⟨u0, s10, e10, f10⟩ := bind_ok f1
    obtain ⟨e11, rfl⟩ := lift_ok e10
    obtain ⟨y, s2, e2, f2⟩ := bind_ok f10
    obtain ⟨d, s3, e3, f3⟩ := bind_ok f2
    obtain ⟨rfl, b1, h1⟩ := peek_ok e3
    obtain ⟨e4, rfl⟩ := lift_ok f3
    obtain ⟨ks0, ds0, rfl⟩ := isDD_ok e11
    obtain ⟨v, hσ, hO0⟩ := r.peek h0
    obtain ⟨a0, xs0, rfl, _, hR0, _⟩ := hO0.dct
    refine ⟨.ref a0, hσ, a0, rfl, .inl ⟨_, hR0⟩, F, T, bx, _, r, y.1, s', by rw [bind_run, e2]; rfl, fun w bx1 H1 x1 q1 => ?_⟩
    obtain ⟨v', hσ', hO⟩ := x1.rel.peek h1
    rw [hσ] at hσ'; cases hσ'
    revert hO
    cases d with
    | dct ks ds =>
      intro hO
      have e4 : ((keyOf y.1).map fun k => ((lookD ks ds k).getD .non, false)) = some t := e4
      obtain ⟨key, ek, rfl⟩ := Option.map_eq_some_iff.mp e4
      obtain ⟨a, xs, ea, hl, hR, hr⟩ := hO.dct
      cases ea
      refine ⟨L2.valV (ks.zip xs) key, .inl ⟨_, key, hR, keyOf_rep q1 ek, rfl⟩, ?_⟩
      have a3 : Rep X.K bx1 (Wf F s' σ T) H1 ((lookD ks ds key).getD .non) ((L2.valV (ks.zip xs) key).getD .non) := by
        rcases look_rep (k := key) (ks := ks) hr with ⟨a1, a2⟩ | ⟨d2, v2, a1, a2, a3⟩
        · rw [a1, a2]; exact Rep.mnon
        · rw [a1, a2]; exact a3
      obtain ⟨y2, z⟩ := ResN.res x1.rel Grow.refl (ResN.old (K := X.K) (bx := bx1) (W := Wf F s' σ T) a3)
      exact k _ bx1 H1 (x1.trans y2) z
    | _ => cases e4
theorem se_dget2 (i : Nat) (hu : X.A.units + 64 < cLine) (hb : SE X b mb) (hz : SE X c mc) (hN : X.N[i]? = some x := by rfl) (hv : Vis X.env.scope x := by first | exact Or.inl rfl | exact Or.inr (Or.inl rfl) | exact Or.inr (Or.inr rfl)) (hd : (x == ("__debug__" : Str)) = false := by decide)
    (hcd : (x == ("__classdict__" : Str)) = false := by decide) (m : M2 X (.Name x p) "get" apos b c cpos := by exact ⟨rfl, rfl, rfl, rfl⟩) : SE X (.Call (.Attribute (.Name x p) "get" apos) [b, c] [] cpos) (dget2M i mb mc) :=
  PE.weak (pe_dget2 (show X.A.units + 1 < cLine by omega) (pe_var hN hv hd hcd) hb.d hz.d m) fun σ H Q h => by
    obtain ⟨F, T, bx, s, r, t, s', e, k⟩ := h
    obtain ⟨d0, s1, e1, f1⟩ := bind_ok e
    obtain ⟨rfl, b0, h0⟩ := peek_ok e1
    obtain ⟨u0, s10, e10, f10⟩ := bind_ok f1
    obtain ⟨e11, rfl⟩ := lift_ok e10
    obtain ⟨y, s2, e2, f2⟩ := bind_ok f10
    obtain ⟨zz, s22, e22, f22⟩ := bind_ok f2
    obtain ⟨d, s3, e3, f3⟩ := bind_ok f22
    obtain ⟨rfl, b1, h1⟩ := peek_ok e3
    obtain ⟨e4, rfl⟩ := lift_ok f3
    obtain ⟨ks0, ds0, rfl⟩ := isDD_ok e11
    obtain ⟨v, hσ, hO0⟩ := r.peek h0
    obtain ⟨a0, xs0, rfl, _, hR0, _⟩ := hO0.dct
    refine ⟨.ref a0, hσ, a0, rfl, .inl ⟨_, hR0⟩, F, T, bx, _, r, y.1, s2, by rw [bind_run, e2]; rfl, fun w bx0 H0 x0 q0 => ⟨F, T, bx0, s2, x0.rel, zz.1, s', by rw [bind_run, e22]; rfl, fun w2 bx1 H1 x01 qz => ?_⟩⟩
    have q1 := x01.tr _ _ q0
    have x1 := x0.trans x01
    obtain ⟨v', hσ', hO⟩ := x1.rel.peek h1
    rw [hσ] at hσ'; cases hσ'
    revert hO
    cases d with
    | dct ks ds =>
      intro hO
      have e4 : ((keyOf y.1).map fun k => ((lookD ks ds k).getD zz.1, false)) = some t := e4
      obtain ⟨key, ek, rfl⟩ := Option.map_eq_some_iff.mp e4
      obtain ⟨a, xs, ea, hl, hR, hr⟩ := hO.dct
      cases ea
      refine ⟨L2.valV (ks.zip xs) key, .inl ⟨_, key, hR, keyOf_rep q1 ek, rfl⟩, ?_⟩
      have a3 : Rep X.K bx1 (Wf F s' σ T) H1 ((lookD ks ds key).getD zz.1) ((L2.valV (ks.zip xs) key).getD w2) := by
        rcases look_rep (k := key) (ks := ks) hr with ⟨a1, a2⟩ | ⟨d2, v2, a1, a2, a3⟩
        · rw [a1, a2]; exact qz
        · rw [a1, a2]; exact a3
      obtain ⟨y2, z⟩ := ResN.res x1.rel Grow.refl (ResN.old (K := X.K) (bx := bx1) (W := Wf F s' σ T) a3)
      exact k _ bx1 H1 (x1.trans y2) z
    | _ => cases e4
/-- x[k] = v, x a local dict -/
def dputM (i : Nat) (mk mv : M DB) : M Fl := do
  let v ← mv
  let _ ← peek i
  let y ← mk
  fun s => match s.env[i]? with
    | some (some (.dct ks ds, true)) => (match keyOf y.1 with
      | some k => if ks.length < sizeLine then .ok .nx { s with env := s.env.set i (some (.dct (putKs ks k) (putDs ks ds k v.1), true)) } else .no
      | none => .no)
    | _ => .no
theorem ss_dput (i : Nat) {value : Expr} {tpos pos : Pos} {mv : M DB} (hu : X.A.units + 64 < cLine) (hb : SE X b mb) (hval : SE X value mv) (hN : X.N[i]? = some x := by rfl) (hv : Vis X.env.scope x := by first | exact Or.inl rfl | exact Or.inr (Or.inl rfl) | exact Or.inr (Or.inr rfl)) (hd : (x == ("__debug__" : Str)) = false := by decide)
    (hcd : (x == ("__classdict__" : Str)) = false := by decide) (hs : swapsWith value (some (.Subscript (.Name x p) b tpos)) pos.line X.env = pure false := by rfl) : SS X (.Assign [.Subscript (.Name x p) b tpos] value pos) (dputM i mb mv) :=
  PS.weak (ps_dput (show X.A.units + 1 < cLine by omega) (pe_var hN hv hd hcd) hb.d hval.d hs) fun D σ H h => by
    obtain ⟨F, T, bx, s, r, fl, s', e, k⟩ := h
    obtain ⟨tv, s1, e1, f1⟩ := bind_ok e
    obtain ⟨d0, s2, e2, f2⟩ := bind_ok f1
    obtain ⟨rfl, b0, h0⟩ := peek_ok e2
    obtain ⟨y, s3, e3, f3⟩ := bind_ok f2
    refine ⟨F, T, bx, s, r, tv.1, s2, by rw [bind_run, e1]; rfl, fun v bx1 H1 x1 q1 => ?_⟩
    obtain ⟨vd, hσ, _⟩ := x1.rel.peek h0
    refine ⟨vd, hσ, F, T, bx1, s2, x1.rel, y.1, s3, by rw [bind_run, e3]; rfl, fun w bx2 H2 x2 q2 => ?_⟩
    split at f3
    · rename_i ks ds hown
      split at f3
      · rename_i key hkey
        split at f3
        · rename_i hlen
          cases f3
          obtain ⟨a, xs, ds', o, g1, g2, g3, g4, _⟩ := x2.rel.ow i _ hown
          rw [hσ] at g2; cases g2
          rcases g1 with ⟨g1, _⟩ | ⟨ks', g1, hl, rfl⟩
          · cases g1
          · cases g1
            have hal : ks.length = xs.length := by rw [hl, g4.length]
            have rv := x2.tr _ _ q1
            refine ⟨a, _, rfl, .inl ⟨ks.zip xs, key, g3, keyOf_rep q2 hkey, by rw [List.length_zip, hal]; omega, rfl⟩, ?_⟩
            have x3 := x2.rel.mutD (u' := .dK (L2.putK (ks.zip xs) key v)) hown hσ g3 (.inr ⟨putKs ks key, rfl, put_len hl, by rw [zip_put hal]⟩) (put_rep g4 rv)
            exact k bx2 σ _ ((x1.trans x2).trans x3)
        · cases f3
      · cases f3
    · cases f3
end
end L2.Pd
set_option maxHeartbeats 4000000
namespace L2.Pd
open PySem PySem.Spec PyProof.Rows
def dinD (f : Bool → Bool) : D → D → Option DB
  | .dct ks ds, y => (keyOf y).map fun k => (.bl (f (lookD ks ds k).isSome), false)
  | _, _ => none
def dinM (f : Bool → Bool) (i : Nat) (mk : M DB) : M DB := do
  let y ← mk
  let d ← peek i
  lift (dinD f d y.1)
theorem dinM_bl {f : Bool → Bool} {i : Nat} {mk : M DB} : ∀ s t s', dinM f i mk s = .ok t s' → ∃ k, t.1 = .bl k := fun s t s' e => by
  obtain ⟨y, s1, e1, e⟩ := bind_ok e
  obtain ⟨d, s2, e2, e⟩ := bind_ok e
  obtain ⟨e3, _⟩ := lift_ok e
  cases d with
  | dct ks ds =>
    have e4 : ((keyOf y.1).map fun k => (D.bl (f (lookD ks ds k).isSome), false)) = some t := e3
    obtain ⟨key, _, rfl⟩ := Option.map_eq_some_iff.mp e4
    exact ⟨_, rfl⟩
  | _ => cases e3
section
variable {X : Cx} {b : Expr} {mb : M DB} {x : Str} {p pos : Pos}
theorem rd_din {f : Bool → Bool} {K : PySem.W.Frag} {i : Nat} {σ : St} {H : Hp} {Q : VK} (h : rdT K (dinM f i mb) σ H Q) :
    rdD K (do let t ← mb; Pure.pure t.1) σ H fun y H1 => ∃ v : V, σ[i]? = some (some v) ∧ ∃ (a : _) (o : Option V), v = .ref a ∧ DGet H1 a y o ∧ Q (.bl (f o.isSome)) H1 := by
  obtain ⟨F, T, bx, s, r, t, s', e, k⟩ := h
  obtain ⟨y, s2, e2, f2⟩ := bind_ok e
  obtain ⟨d, s3, e3, f3⟩ := bind_ok f2
  obtain ⟨rfl, b1, h1⟩ := peek_ok e3
  obtain ⟨e4, rfl⟩ := lift_ok f3
  refine ⟨F, T, bx, s, r, y.1, s', by rw [bind_run, e2]; rfl, fun w bx1 H1 x1 q1 => ?_⟩
  obtain ⟨v', hσ', hO⟩ := x1.rel.peek h1
  revert hO
  cases d with
  | dct ks ds =>
    intro hO
    have e4 : ((keyOf y.1).map fun k => (D.bl (f (lookD ks ds k).isSome), false)) = some t := e4
    obtain ⟨key, ek, rfl⟩ := Option.map_eq_some_iff.mp e4
    obtain ⟨a, xs, rfl, hl, hR, hr⟩ := hO.dct
    refine ⟨_, hσ', a, L2.valV (ks.zip xs) key, rfl, .inl ⟨_, key, hR, keyOf_rep q1 ek, rfl⟩, ?_⟩
    have ez : (L2.valV (ks.zip xs) key).isSome = (lookD ks ds key).isSome := by
      rcases look_rep (k := key) (ks := ks) hr with ⟨a1, a2⟩ | ⟨d2, v2, a1, a2, a3⟩
      · rw [a1, a2]; rfl
      · rw [a1, a2]; rfl
    rw [ez]
    obtain ⟨y2, z⟩ := ResN.res x1.rel Grow.refl (ResN.old (K := K) (bx := bx1) (W := Wf F s' σ T) Rep.mbl)
    exact k _ bx1 H1 (x1.trans y2) z
  | _ => cases e4
theorem se_din (i : Nat) (hu : X.A.units + 64 < cLine) (hb : SE X b mb) (hN : X.N[i]? = some x := by rfl) (hv : Vis X.env.scope x := by first | exact Or.inl rfl | exact Or.inr (Or.inl rfl) | exact Or.inr (Or.inr rfl)) (hd : (x == ("__debug__" : Str)) = false := by decide)
    (hcd : (x == ("__classdict__" : Str)) = false := by decide) : SE X (.Compare b [.In] [.Name x p] pos) (dinM id i mb) :=
  PE.weak (pe_cmp (pc_din (show X.A.units + 1 < cLine by omega) hb.d (pe_var hN hv hd hcd))) fun _ _ _ h => rd_din h
theorem se_dnotin (i : Nat) (hu : X.A.units + 64 < cLine) (hb : SE X b mb) (hN : X.N[i]? = some x := by rfl) (hv : Vis X.env.scope x := by first | exact Or.inl rfl | exact Or.inr (Or.inl rfl) | exact Or.inr (Or.inr rfl)) (hd : (x == ("__debug__" : Str)) = false := by decide)
    (hcd : (x == ("__classdict__" : Str)) = false := by decide) : SE X (.Compare b [.NotIn] [.Name x p] pos) (dinM not i mb) :=
  PE.weak (pe_cmp (pc_dnotin (show X.A.units + 1 < cLine by omega) hb.d (pe_var hN hv hd hcd))) fun _ _ _ h => rd_din h
theorem sb_din (i : Nat) (hu : X.A.units + 64 < cLine) (hb : SE X b mb) (hN : X.N[i]? = some x := by rfl) (hv : Vis X.env.scope x := by first | exact Or.inl rfl | exact Or.inr (Or.inl rfl) | exact Or.inr (Or.inr rfl)) (hd : (x == ("__debug__" : Str)) = false := by decide)
    (hcd : (x == ("__classdict__" : Str)) = false := by decide) : SB X (.Compare b [.In] [.Name x p] pos) (tru (dinM id i mb)) :=
  PT.weak (pt_cmp (pc_din (show X.A.units + 1 < cLine by omega) hb.d (pe_var hN hv hd hcd))) fun _ _ _ h => rd_din (rdB.test dinM_bl h)
theorem sb_dnotin (i : Nat) (hu : X.A.units + 64 < cLine) (hb : SE X b mb) (hN : X.N[i]? = some x := by rfl) (hv : Vis X.env.scope x := by first | exact Or.inl rfl | exact Or.inr (Or.inl rfl) | exact Or.inr (Or.inr rfl)) (hd : (x == ("__debug__" : Str)) = false := by decide)
    (hcd : (x == ("__classdict__" : Str)) = false := by decide) : SB X (.Compare b [.NotIn] [.Name x p] pos) (tru (dinM not i mb)) :=
  PT.weak (pt_cmp (pc_dnotin (show X.A.units + 1 < cLine by omega) hb.d (pe_var hN hv hd hcd))) fun _ _ _ h => rd_din (rdB.test dinM_bl h)
end
end L2.Pd
set_option maxHeartbeats 4000000
namespace L2.Pd
open PySem PySem.Spec PyProof.Rows
open Classical in
noncomputable def augdM (i : Nat) (m : M DB) : M Fl := do
  let d ← peek i
  let t ← m
  match d, t.1 with
  | .int a, .int b => if okDiv b then putv i (.int (a / b), false) else lift none
  | _, _ => lift none
section
variable {X : Cx} {a : Expr} {ma : M DB} {i : Nat} {x : Str} {pos pos' : Pos}
theorem ip_divD : PIp X .FloorDiv (rI CDivW fun i j => .int (i / j)) := iop_fdivW
theorem ss_augd (hN : X.N.Nodup) (hi : X.N[i]? = some x) (hx : Loc X.env.scope x) (he : SE X a ma)
    (hf : X.fn x = true ∨ X.env.scope.names.lookup x = some .local := by first | exact .inl rfl | exact .inr rfl | assumption) : SS X (.AugAssign (.Name x pos') .FloorDiv a pos) (augdM i ma) :=
  PS.weak (ps_aug hN hi hx he.d ip_divD hf) fun D σ H h => by
    obtain ⟨F, T, bx, s, r, fl, s', e, k⟩ := h
    obtain ⟨d, s1, e1, f1⟩ := bind_ok e
    obtain ⟨rfl, b0, h0⟩ := peek_ok e1
    obtain ⟨t, s2, e2, f2⟩ := bind_ok f1
    obtain ⟨d2, fr⟩ := t
    cases d with
    | int n =>
      cases d2 with
      | int m =>
        by_cases hm : okDiv m
        · have f3 : putv i (L2.Pd.D.int (n / m), false) s2 = .ok fl s' := by simpa [hm] using f2
          obtain ⟨rfl, hlt, rfl⟩ := putv_ok f3
          obtain ⟨v, hσ, hO⟩ := r.peek h0
          have ev : v = .int n := (hO.old (by intro _ z; cases z)).int
          refine ⟨v, hσ, F, T, bx, s1, r, L2.Pd.D.int m, s2, by rw [bind_run, e2]; rfl, fun w bx1 H1 x1 q1 => ⟨n, m, ev, q1.int, hm, ?_⟩⟩
          have x2 : Stp X.K F T bx1 s2 σ H1 bx1 (tmpOf (L2.Pd.D.int (n / m), false) (V.int (n / m)) T) s2 σ H1 := Stp.refl x1.rel
          exact k bx1 _ H1 (x1.trans (x2.put (show Res X.K F T bx1 s2 σ H1 (L2.Pd.D.int (n / m), false) (V.int (n / m)) from Res.old Rep.mint) hlt))
        · have f3 : (lift none : M Fl) s2 = .ok fl s' := by simpa [hm] using f2
          cases f3
      | _ => cases f2
    | _ => cases f2
end
end L2.Pd
set_option maxHeartbeats 4000000
namespace L2.Pd
open PySem PySem.Spec PyProof.Rows
def rdSz (K : PySem.W.Frag) (i : Nat) (m : M Fl) : TS := fun D σ H => ∃ F T bx s, Rel K F bx T s σ H ∧ FzAt F i σ ∧ ∃ fl s', m s = .ok fl s' ∧ match fl with
  | .nx => ∀ bx' σ' H', Stp K F T bx s σ H bx' T s' σ' H' → D.nx σ' H'
  | .bk => ∀ bx' σ' H', Stp K F T bx s σ H bx' T s' σ' H' → D.bk σ' H'
  | .ct => ∀ bx' σ' H', Stp K F T bx s σ H bx' T s' σ' H' → D.ct σ' H'
  | .rt t => ∀ v bx' σ' H', Stp K F T bx s σ H bx' (tmpOf t v T) s' σ' H' → Res K F T bx' s' σ' H' t v → D.rt v H'
theorem rdS.lock {K : PySem.W.Frag} {i : Nat} {m : M Fl} {D : _} {σ : St} {H : Hp} (h : rdS K (lockM i m) D σ H) : tLock (rdSz K i m) D σ H ∨ rdSz K i m D σ H := by
  obtain ⟨F, T, bx, s, r, t, s', e, k⟩ := h
  unfold lockM at e
  split at e
  · rename_i ks ds b q
    obtain ⟨x0, a, xs, hσ, hl, h3, h4, h5⟩ := r.atD q
    rcases h3 with h3 | ⟨od, h3⟩
    · refine .inl ⟨a, _, h3, True.intro, fun od => ⟨_, T, bx, _, x0.rel.lock h3 .dK h4 h5, ⟨a, od, _, hσ, upd_same, r.nb0 h5⟩, t, s', e, ?_⟩⟩
      cases t with
      | nx | bk | ct =>
        intro bx' σ' H' x
        obtain ⟨e1, x1⟩ := Stp.unlock x0.rel h3 .dK h4 h5 x
        exact ⟨e1, k bx' _ _ (x0.trans x1)⟩
      | rt t =>
        intro v bx' σ' H' x q
        obtain ⟨e1, x1⟩ := Stp.unlock x0.rel h3 .dK h4 h5 x
        exact ⟨e1, k v bx' _ _ (x0.trans x1) (Res.unlock e1 q)⟩
    · refine .inr ⟨_, T, bx, _, x0.rel.pin h3 h5, ⟨a, od, _, hσ, upd_same, r.nb0 h5⟩, t, s', e, ?_⟩
      cases t with
      | nx | bk | ct =>
        intro bx' σ' H' x
        exact k bx' _ _ (x0.trans (Stp.unpin x0.rel h3 h5 x))
      | rt t =>
        intro v bx' σ' H' x q
        exact k v bx' _ _ (x0.trans (Stp.unpin x0.rel h3 h5 x)) q
  · cases e
end L2.Pd
set_option maxHeartbeats 4000000
namespace L2.Pd
open PySem PySem.Spec PyProof.Rows
theorem rdSz.for_ {K : PySem.W.Frag} {i0 : Nat} {ws : List Nat} {mi : M (List D)} {g : D → M Unit} {b : M Fl} {D : Ends} {σ : St} {H : Hp} (h : rdSz K i0 (forM' mi g b) D σ H) : tFor (rdIz K i0 mi) (rdG K g ws) (rdS K b) D σ H := by
  obtain ⟨F, T, bx, s, r, z0, fl, s', e, k⟩ := h
  obtain ⟨ds, s1, e1, e⟩ := bind_ok e
  refine ⟨F, T, bx, s, r, z0, ds, s1, e1, fun J bx1 H1 x1 y => ?_⟩
  refine ⟨fun i m σi Hi => i ≤ ds.length ∧ m = ds.length - i ∧ ∃ bxi si, Stp K F T bx1 s1 σ H1 bxi T si σi Hi ∧ forL g b (ds.drop i) si = .ok fl s', ⟨ds.length, Nat.zero_le _, by simp, bx1, s1, Stp.refl x1.rel, by simpa using e⟩, ?_⟩
  rintro i m σi Hi ⟨hi, rfl, bxi, si, xi, ei⟩
  obtain ⟨yg, ys⟩ := y bxi (Wf F si σi T) Hi xi.tr xi.rel.fz
  by_cases hlt : i < ds.length
  · obtain ⟨yg1, yg2⟩ := yg i hlt
    refine .inr ⟨yg1, fun σ' H' => ∃ bx' s2, Stp K F T bx1 s1 σ H1 bx' T s2 σ' H' ∧ forL g b (ds.drop (i + 1)) s2 = .ok fl s', fun σ' H' ⟨bx', s2, x2, e2⟩ => ⟨ds.length - (i + 1), by omega, hlt, rfl, bx', s2, x2, e2⟩, fun x H' hy => ?_⟩
    obtain ⟨gr, rep⟩ := yg2 x H' hy
    have hd : ds[i]? = some ds[i] := List.getElem?_eq_getElem hlt
    have rp := rep _ hd
    rw [List.drop_eq_getElem_cons hlt] at ei
    obtain ⟨_, sg, eg, ei⟩ := bind_ok (m := g ds[i]) ei
    obtain ⟨f, sb, eb, ei⟩ := bind_ok ei
    have xg : Stp K F T bxi si σi Hi bxi T si σi H' := Stp.grow xi.rel gr (fun _ z => .inl z) (fun _ z => z)
    refine ⟨F, T, bxi, si, ds[i], xg.rel, rp, sg, eg, fun bx2 σ2 H2 x2 _ _ => ?_⟩
    have xx := (xi.trans xg).trans x2
    cases f with
    | nx => exact rdS.any xx eb fun bx3 σ3 H3 x3 => ⟨bx3, sb, x3, ei⟩
    | ct => exact rdS.any xx eb fun bx3 σ3 H3 x3 => ⟨bx3, sb, x3, ei⟩
    | bk => cases ei; exact rdS.any xx eb fun bx3 σ3 H3 x3 => k bx3 σ3 H3 (x1.trans x3)
    | rt t => cases ei; exact rdS.any xx eb fun v bx3 σ3 H3 x3 q => k v bx3 σ3 H3 (x1.trans x3) q
  · have e : i = ds.length := by omega
    subst e
    rw [List.drop_length] at ei
    cases ei
    exact .inl ⟨ys, k bxi σi Hi (x1.trans xi)⟩
section
variable {X : Cx}
theorem ps_lk {st : Stmt} {t : TS} (h : PS X st t) : PS X st fun D σ H => tLock t D σ H ∨ t D σ H :=
  ⟨fun pins s σ H D I q => q.elim (fun q => (ps_lock h).run pins s σ H D I q) fun q => h.run pins s σ H D I q⟩
theorem ss_forZ {i : Nat} {tg iter : Expr} {mi : M (List D)} {g : D → M Unit} {b : M Fl} {body : List Stmt} {ws : List Nat} {pos : Pos} (hp : PassesOwn (model X.prog X.w) X.A X.env X.xe) (hc : X.calm = true) (hi : SIz X i tg iter mi) (hg : SG X tg g ws) (hb : SSs X body b)
    (hs : ∀ x, foldedSetIterable iter X.env x = pure x := by intro _; rfl) : SS X (.For tg iter body [] pos) (lockM i (forM' mi g b)) :=
  PS.weak (ps_lk (PS.weak (t := tFor (rdIz X.K i mi) (rdG X.K g ws) (rdS X.K b)) (ps_for hp hc hi hg hb hs) fun _ _ _ h => rdSz.for_ h)) fun _ _ _ h => h.lock
end
end L2.Pd
set_option maxHeartbeats 4000000
namespace L2.Pd
open PySem PySem.Spec PyProof.Rows
section
variable {X : Cx} {elt tg iter c : Expr} {scope : Scope} {own : List (Str × Nat)} {pos spos py : Pos} {mi : M (List D)} {g : D → M Unit} {tt : M Bool} {te ma : M DB} {ws : List Nat} {i i0 : Nat} {y : Str}
theorem rdSetz {K : PySem.W.Frag} {D : Ends} {σ : St} {H : Hp} (h : rdSz K i0 (setv i ma) D σ H) : rdTz K i0 ma σ H fun v H1 => D.nx (σ.set i (some v)) H1 := by
  obtain ⟨F, T, bx, s, r, z, fl, s', e, k⟩ := h
  obtain ⟨t, s1, e1, e⟩ := bind_ok e
  obtain ⟨rfl, hlt, rfl⟩ := putv_ok e
  exact ⟨F, T, bx, s, r, z, t, s1, e1, fun v bx' H' x q => k bx' _ H' (x.put q hlt)⟩
theorem ss_setLcZ (hc : X.calm = true) (hN : X.N.Nodup) (hy : X.N[i]? = some y) (hyl : X.env.scope.names.lookup y = some .local) (hi : SIz X i0 tg iter mi) (ok : BlkOk X.N X.env.scope scope own) (hws : ∀ j ∈ ws, j ∈ own.map (·.2)) (hg : Blk X scope fun Y => SG Y tg g ws) (he : Blk X scope fun Y => SE Y elt te)
    (hsw : swapsWith (.ListComp elt [⟨tg, iter, [], 0⟩] scope pos) (some (.Name y py)) spos.line X.env = pure true)
    (hs : ∀ x, foldedSetIterable iter X.env x = pure x := by intro _; rfl) : SS X (.Assign [.Name y py] (.ListComp elt [⟨tg, iter, [], 0⟩] scope pos) spos) (lockM i0 (setv i (lcM mi g noT te (own.map (·.2))))) :=
  PS.weak (ps_lk (PS.weak (ps_setLc (wi := rdIz X.K i0 mi) (g := rdG X.K g ws) (te := rdT X.K te) (tt := rdB X.K noT) hc hN hy hyl hsw hi ok hg (fun s H C cl fp => ⟨fun pins s' σ H' Q I q => (pts_nil (X := X.blk s H scope (compEnvC scope cl C X.env) fp)).run pins s' σ H' Q I q.yes⟩) he hs) fun _ _ _ h => rdTz.lc hws (rdSetz h))) fun _ _ _ h => h.lock
theorem ss_setLcZIf (hc : X.calm = true) (hN : X.N.Nodup) (hy : X.N[i]? = some y) (hyl : X.env.scope.names.lookup y = some .local) (hi : SIz X i0 tg iter mi) (ok : BlkOk X.N X.env.scope scope own) (hws : ∀ j ∈ ws, j ∈ own.map (·.2)) (hg : Blk X scope fun Y => SG Y tg g ws) (ht : Blk X scope fun Y => SB Y c tt) (he : Blk X scope fun Y => SE Y elt te)
    (hsw : swapsWith (.ListComp elt [⟨tg, iter, [c], 0⟩] scope pos) (some (.Name y py)) spos.line X.env = pure true)
    (hs : ∀ x, foldedSetIterable iter X.env x = pure x := by intro _; rfl) : SS X (.Assign [.Name y py] (.ListComp elt [⟨tg, iter, [c], 0⟩] scope pos) spos) (lockM i0 (setv i (lcM mi g tt te (own.map (·.2))))) :=
  PS.weak (ps_lk (PS.weak (ps_setLc (wi := rdIz X.K i0 mi) (g := rdG X.K g ws) (te := rdT X.K te) (tt := rdB X.K tt) hc hN hy hyl hsw hi ok hg (fun s H C cl fp => pts_one (ht s H C cl fp)) he hs) fun _ _ _ h => rdTz.lc hws (rdSetz h))) fun _ _ _ h => h.lock
end
end L2.Pd
set_option maxHeartbeats 4000000
namespace L2.Pd
open PySem PySem.Spec PyProof.Rows
theorem go_long {h : Heap} {it : Addr} {x l c : Int} (h1 : IsLongIter h it x l c) : ∃ o, h.get? it = some o := ⟨_, h1⟩
theorem turn_long {P : Program} {w : World} {K : PySem.W.Frag} {tg : Expr} (it : Addr) (lo : Int) (n : Nat) : Turn P w K tg (Itr lo n) [it] it (fun i h => IsLongIter h it (lo + (i : Nat) * 1) ((n : Int) - (i : Nat)) 1) where
  mem := by simp
  obj := fun i h st b hb => by
    have e : b = it := by simpa using hb
    subst e
    exact ⟨_, st, fun v z => by
      have z' : Data.fields _ = Data.cell v := z
      cases z'⟩
  keep := fun i h h' st k => k it (by simp) _ st
  item := by
    intro X hP hw hK hc i pins s σ H E I hf st hg
    subst hP hw hK
    obtain ⟨f0, f1, f2, f3, f4, f5⟩ := hf it (by simp)
    have W := Walks.longrange (prog := X.prog) (w := X.w) (I.ok.hd hc) it lo 1 n
    refine W.item i s _ _ hg st fun v h' tk hv st' kk => ?_
    obtain ⟨t, rfl⟩ := hv
    have I1 : Inv X pins σ H { s with heap := h', toks := tk } := I.turned (fun b o hb e => kk b o (by simpa using hb) e) f0 f1 f3 f4 f5
    refine ⟨_, rfl, go_of (s := { s with heap := h', toks := tk }) (n := "longrange_iterator") st' rfl rfl (by decide) ⟨.int (lo + i), H, I1, ⟨t, ?_⟩, ⟨rfl, rfl⟩, st', fun b hb => (hf b hb).1⟩⟩
    rw [Int.mul_one]
  done := by
    intro X hP hw hK hc i pins s σ H E I hf st hg
    subst hP hw hK
    obtain ⟨f0, f1, f2, f3, f4, f5⟩ := hf it (by simp)
    exact wpAny_pyNext_long_end (I.ok.hd hc) st (by have : n ≤ i := hg; omega) fun h' eb => ⟨rfl, I.turned (t' := s.toks) (fun b o hb e => eb b o hb e) f0 f1 f3 f4 f5⟩
  self := fun _ _ _ _ _ st h => wpAny_pyIter_longiter st h
section
variable {X : Cx} {tg : Expr}
theorem long_it {pins : List (Addr × Obj)} {σ : St} {H : Hp} {s : Shared} {R : It → Hp → Prop} {E : Value → Shared → Prop} {lo hi : Int} {t u v : Tok} {tk : Nat} (I : Inv X pins σ H s) (h1 : 2 ^ 63 ≤ lo)
    (q : R (Itr lo (hi - lo).toNat) H) : wpAny (model X.prog X.w) X.A (pyIter (.ref s.heap.objs.size)) (PIE X pins σ tg R) E { s with heap := s.heap.push { cls := .type "range", data := .fields #[.int lo t, .int hi u, .int 1 v] }, toks := tk } := by
  have hf : Builtin.Range.rangeFitsLong lo = false := by
    unfold Builtin.Range.rangeFitsLong
    rw [Bool.and_eq_false_iff]
    exact .inr (decide_eq_false (by omega))
  refine wpAny_pyIter_longrange (IsRange.new ..) (by unfold Builtin.Range.small; rw [hf]; rfl) ?_
  have I1 : Inv X pins σ H { s with heap := s.heap.push { cls := .type "range", data := .fields #[.int lo t, .int hi u, .int 1 v] }, toks := tk } := I.kept fun b o e => Heap.get?_push_of_some _ e
  refine ⟨(s.heap.push { cls := .type "range", data := .fields #[.int lo t, .int hi u, .int 1 v] }).objs.size, [(s.heap.push { cls := .type "range", data := .fields #[.int lo t, .int hi u, .int 1 v] }).objs.size], _, _, H, rfl,
    I1.kept (t' := tk) fun b o e => Heap.get?_push_of_some _ e, turn_long _ lo (hi - lo).toNat, ?_, fun b hb => ?_, q⟩
  · have e1 : lo + ((0 : Nat) : Int) * 1 = lo := by simp
    have e2 : (((hi - lo).toNat : Nat) : Int) - ((0 : Nat) : Int) = Builtin.Range.rangeSize lo hi 1 := by rw [rangeSize_one]; split <;> omega
    show IsLongIter _ _ (lo + ((0 : Nat) : Int) * 1) ((((hi - lo).toNat : Nat) : Int) - ((0 : Nat) : Int)) 1
    rw [e1, e2]
    exact Heap.get?_push_size _ rfl
  · have e : b = (s.heap.push { cls := .type "range", data := .fields #[.int lo t, .int hi u, .int 1 v] }).objs.size := by simpa using hb
    subst e
    exact I1.fpOk (Nat.le_refl _) (I1.hok.fresh (Nat.le_refl _))
def iRng2L (ta : TA) : TI := fun σ H R => ta σ H fun vs H1 => ∃ i j : Int, vs = [.int i, .int j] ∧ ((-(2 ^ 62) ≤ i ∧ i < 2 ^ 62 ∧ -(2 ^ 62) ≤ j ∧ j < 2 ^ 62) ∨ 2 ^ 63 ≤ i) ∧ R (Itr i (j - i).toNat) H1
theorem pi_range2L {a b : Expr} {ta : TA} {p pos : Pos} (hg : Gl X "range") (hm : X.mg "range" = none) (ha : PA X [a, b] ta) (hs : starEach [a, b] X.env = [(false, eval a X.env), (false, eval b X.env)] := by rfl) (hs2 : starEach [b] X.env = [(false, eval b X.env)] := by rfl) :
    PI X tg (.Call (.Name "range" p) [a, b] [] pos) (iRng2L ta) := by
  refine ⟨fun pins s σ H R I h => ?_⟩
  refine Call_ (ld_blt I hg hm boot_range (PyProof.Rows.callWith_type1 (thn (ha.run pos pins s σ H _ I h) fun us s1 ⟨vs, H1, I1, r1, q1⟩ => ?_) (by rw [hs, hs2]) (by rw [hs2]; rfl)))
  obtain ⟨i, j, e, hc, q⟩ := q1
  subst e
  cases r1 with
  | cons r rr =>
    cases rr with
    | cons r' rr =>
      cases rr
      obtain ⟨t, rfl⟩ := r
      obtain ⟨t', rfl⟩ := r'
      rcases hc with ⟨q1, q2, q3, q4⟩ | hc
      · exact call_range_2 (range_it I1 q1 q2 q3 q4 q)
      · exact call_range_2 (long_it I1 hc q)
def rngI2L (mr : M (List D)) : M (List D) := do
  let ds ← mr
  lift (match ds with
    | [.int i, .int j] => if (small62 i && small62 j || decide (2 ^ 63 ≤ i)) = true then some (rangeD i (j - i).toNat) else none
    | _ => none)
theorem si_range2L {a b : Expr} {mr : M (List D)} {p pos : Pos} (hg : Gl X "range") (hm : X.mg "range" = none) (ha : SA X [a, b] mr) (hs : starEach [a, b] X.env = [(false, eval a X.env), (false, eval b X.env)] := by rfl) (hs2 : starEach [b] X.env = [(false, eval b X.env)] := by rfl) : SI X tg (.Call (.Name "range" p) [a, b] [] pos) (rngI2L mr) :=
  PI.weak (pi_range2L hg hm ha hs hs2) fun σ H R h => by
    obtain ⟨F, T, bx, s, r, ds, s', e, k⟩ := h
    obtain ⟨xs, s1, e1, e⟩ := bind_ok e
    obtain ⟨e2, rfl⟩ := lift_ok e
    refine ⟨F, T, bx, s, r, xs, s', e1, fun vs bx1 H1 x1 q1 => ?_⟩
    split at e2
    · rename_i i j
      split at e2
      · rename_i c
        cases e2
        obtain ⟨v, vs', rfl, q2, q3⟩ := q1.uncons
        obtain ⟨v', vs'', rfl, q4, q5⟩ := q3.uncons
        rw [q5.unnil, q2.int, q4.int]
        refine ⟨i, j, rfl, ?_, k _ bx1 H1 x1 yields_range⟩
        rcases Bool.or_eq_true_iff.mp c with c' | c'
        · have c' := Bool.and_eq_true_iff.mp c'
          have c1 := Bool.and_eq_true_iff.mp c'.1
          have c2 := Bool.and_eq_true_iff.mp c'.2
          exact .inl ⟨of_decide_eq_true c1.1, of_decide_eq_true c1.2, of_decide_eq_true c2.1, of_decide_eq_true c2.2⟩
        · exact .inr (of_decide_eq_true c')
      · cases e2
    · cases e2
theorem op_irep : OpR X (binaryOp .Mult) (fun x y H Q => ∃ l k xs, x = V.int k ∧ y = V.ref l ∧ SqL X.K H l xs ∧ 0 ≤ k ∧ k ≤ 1000 ∧ xs.length ≤ 1000 ∧ ∀ p, H p = none → Q (.ref p) (upd H p (.lst (List.replicate k.toNat xs).flatten))) := by
  intro pins s σ H x y v u Q I rx ry h
  obtain ⟨l, k, xs, rfl, rfl, hH, h1, h2, hz, q⟩ := h
  cases ry
  obtain ⟨t, rfl⟩ := rx
  obtain ⟨its, r, ⟨⟨cls, d, data, sl⟩, n, e, hc, hd, hdat⟩, _⟩ := I.list hH
  simp only at hc hdat hd
  subst hc hdat
  have hl := r.length
  have hlen : its.toArray.size * k.toNat ≤ 1000000 := by
    rw [List.size_toArray, ← hl]
    exact Nat.mul_le_mul hz (by omega : k.toNat ≤ 1000)
  have hnew : List.foldl (fun x1 x2 => x1 ++ x2) #[] (List.replicate (if its.toArray.isEmpty = true then 0 else k.toNat) its.toArray) = (List.replicate k.toNat its).flatten.toArray := by
    rw [listMul_foldl_if]
  refine lm_binaryOp_repeat_right (T := "list") (U := "int") (by decide) (fun s' => typeIs_int s' k t) ⟨_, e, rfl⟩ F.fills_int_mul noFill_list_mul F.slot_int_mul lm_noRepeat_int repeat_list F.slot_int_index.lookup
    (call_meets F.slot_int_mul (typeIs_int s k t) F.entry_int_mul (F.args_int_mul_2 _ _) (lm_int_mul_list_any k t l its.toArray n d sl)
      ⟨e, rfl, ⟨_, e, rfl⟩, call_meets F.slot_list_mul ⟨_, e, rfl⟩ F.entry_list_mul (F.args_list_mul_2 _ _)
        (lm_list_mul_any l its.toArray n d sl k t (by simp [Builtin.List.listFitsIndex]; omega) (by omega) (by simp [Builtin.List.listTooLong, sizeLine]; simp at hlen; omega)) ⟨e, ?_⟩⟩)
  rw [hnew]
  exact ⟨.ref _, _, I.lnew (t' := s.toks) (r.rep k.toNat) (by rw [PyProof.Rows.lm_len_rep_flat, Nat.mul_comm, sizeLine_eq]; rw [List.size_toArray, ← hl] at hlen; omega), rfl, q _ I.fresh⟩
def irepD : List D → Option DB
  | [.int k, .lst ds] => if 0 ≤ k ∧ k ≤ 1000 ∧ ds.length ≤ 1000 then some (.lst (List.replicate k.toNat ds).flatten, true) else none
  | _ => none
theorem op_irepD : OpR X (binaryOp .Mult) (P2 X.K irepD) := by
  intro pins s σ H x y v u Q I rx ry h
  obtain ⟨bx, W, ds, t, r, e, k⟩ := h
  obtain ⟨d1, d2, rfl, h1, h2⟩ := r.two
  unfold irepD at e
  split at e
  · rename_i n ds z
    cases z
    split at e
    · rename_i c
      cases e
      obtain ⟨a, xs, rfl, q1, q2⟩ := h2.lst
      rw [h1.int] at rx
      have hl := q2.length
      refine op_irep pins s σ H _ _ v u Q I rx ry ⟨a, n, xs, rfl, rfl, q1, c.1, c.2.1, by rw [← hl]; exact c.2.2, fun p hp => ?_⟩
      exact k _ _ (Grow.new hp) (ResN.newL hp (q2.rep n.toNat))
    · cases e
  · cases e
def pairsOf : List D → Option (List (L2.Key × D))
  | [] => some []
  | .tup [a, b] :: ds => match keyOf a, pairsOf ds with
    | some k, some r => some ((k, b) :: r)
    | _, _ => none
  | _ => none
def putAll (ks : List L2.Key) (ds : List D) : List (L2.Key × D) → List L2.Key × List D
  | [] => (ks, ds)
  | p :: ps => putAll (putKs ks p.1) (putDs ks ds p.1 p.2) ps
def dictPD : List D → Option DB
  | [.lst ds] => (pairsOf ds).map fun ps => (.dct (putAll [] [] ps).1 (putAll [] [] ps).2, true)
  | _ => none
theorem pairs_rep {K : PySem.W.Frag} {bx : Bxs} {W : Wd} {H : Hp} : ∀ {ds : List D} {xs : List V} {ps : List (L2.Key × D)}, RepL K bx W H ds xs → pairsOf ds = some ps →
    ∃ (as : List Addr) (kvs : List (L2.Key × V)), xs = as.map V.ref ∧ Paired (fun p (kv : L2.Key × V) => SqT K H p [kV kv.1, kv.2]) as kvs ∧ kvs.map (·.1) = ps.map (·.1) ∧ RepL K bx W H (ps.map (·.2)) (kvs.map (·.2))
  | [], xs, ps, h, e => by
    rw [h.unnil]
    cases e
    exact ⟨[], [], rfl, .nil, rfl, .nil⟩
  | d :: ds, xs, ps, h, e => by
    obtain ⟨v, vs, rfl, h1, h2⟩ := h.uncons
    unfold pairsOf at e
    split at e
    · rename_i z; cases z
    · rename_i a b ds' z
      cases z
      split at e
      · rename_i k r ek er
        cases e
        obtain ⟨as, kvs, rfl, q1, q2, q3⟩ := pairs_rep h2 er
        obtain ⟨p, ys, rfl, t1, t2⟩ := h1.tup
        obtain ⟨x, ys', rfl, u1, u2⟩ := t2.uncons
        obtain ⟨y, ys'', rfl, u3, u4⟩ := u2.uncons
        rw [u4.unnil, keyOf_rep u1 ek] at t1
        exact ⟨p :: as, (k, y) :: kvs, rfl, .cons t1 q1, by simp [q2], .cons u3 q3⟩
      · cases e
    · cases e
theorem merge_rep {K : PySem.W.Frag} {bx : Bxs} {W : Wd} {H : Hp} : ∀ {kvs : List (L2.Key × V)} {ps : List (L2.Key × D)} {ks : List L2.Key} {ds : List D} {xs : List V}, kvs.map (·.1) = ps.map (·.1) → RepL K bx W H (ps.map (·.2)) (kvs.map (·.2)) →
    ks.length = ds.length → RepL K bx W H ds xs → ∃ xs', mergeK (ks.zip xs) kvs = (putAll ks ds ps).1.zip xs' ∧ (putAll ks ds ps).1.length = (putAll ks ds ps).2.length ∧ RepL K bx W H (putAll ks ds ps).2 xs'
  | [], [], ks, ds, xs, _, _, hl, h => ⟨xs, rfl, hl, h⟩
  | [], _ :: _, _, _, _, e, _, _, _ => by cases e
  | _ :: _, [], _, _, _, e, _, _, _ => by cases e
  | kv :: kvs, p :: ps, ks, ds, xs, e, r, hl, h => by
    simp only [List.map_cons, List.cons.injEq] at e
    obtain ⟨x, xs', e1, r1, r2⟩ := r.uncons
    simp only [List.map_cons, List.cons.injEq] at e1
    have hlx : ks.length = xs.length := hl.trans h.length
    have ez : L2.putK (ks.zip xs) kv.1 kv.2 = (putKs ks p.1).zip (putVs ks xs p.1 kv.2) := by rw [e.1, zip_put hlx]
    have r1' : Rep K bx W H p.2 kv.2 := by rw [e1.1]; exact r1
    obtain ⟨ys, a1, a2, a3⟩ := merge_rep (kvs := kvs) (ps := ps) (ks := putKs ks p.1) (ds := putDs ks ds p.1 p.2) (xs := putVs ks xs p.1 kv.2) e.2 (by rw [e1.2]; exact r2) (put_len hl) (put_rep h r1')
    refine ⟨ys, ?_, a2, a3⟩
    show mergeK (L2.putK (ks.zip xs) kv.1 kv.2) kvs = _
    rw [ez]
    exact a1
theorem call_dictPD (hc : X.calm = true) : CallR X (.type "dict") (Pu X.K dictPD) := by
  intro pins s σ H xs us Q I r h
  obtain ⟨bx, W, ds, t, q, e, k⟩ := h
  unfold dictPD at e
  split at e
  · rename_i ds
    obtain ⟨ps, ep, rfl⟩ := Option.map_eq_some_iff.mp e
    obtain ⟨v, vs, rfl, h1, h2⟩ := q.uncons
    rw [h2.unnil] at r
    obtain ⟨a, ys, rfl, q1, q2⟩ := h1.lst
    obtain ⟨as, kvs, rfl, z1, z2, z3⟩ := pairs_rep q2 ep
    obtain ⟨ws, m1, m2, m3⟩ := merge_rep (ks := []) (ds := []) (xs := []) z2 z3 rfl .nil
    refine call_dictP hc pins s σ H _ us Q I r ⟨a, as, kvs, rfl, q1, z1, fun p hp => ?_⟩
    refine k _ _ (Grow.new hp) ⟨p, ws, (putAll [] [] ps).2, _, .inr ⟨_, rfl, m2, by rw [← m1]; rfl⟩, rfl, hp, upd_same, ?_⟩
    exact m3.grow (Grow.new hp) fun b z => z.elim .inl fun e => .inr (e ▸ hp)
  · cases e
end
end L2.Pd
set_option maxHeartbeats 4000000
namespace L2.Pd
open PySem PySem.Spec PyProof.Rows
def rangeC (lo c : Int) (n : Nat) : List D := (List.range n).map fun (i : Nat) => .int (lo + (i : Int) * c)
theorem yields_rangeC {K : PySem.W.Frag} {F : Fm} {bx : Bxs} {W : Wd} {H : Hp} {lo c : Int} {n : Nat} : Yields K F (Itc lo c n) bx W H (rangeC lo c n) := by
  intro bx' W' H' tr _
  have hl : (rangeC lo c n).length = n := by simp [rangeC]
  refine ⟨fun i hi => ⟨by rw [hl] at hi; exact hi, fun x H'' y => ?_⟩, Nat.le_of_eq hl.symm⟩
  obtain ⟨e, e2⟩ := y
  subst e e2
  refine ⟨Grow.refl, fun d hd => ?_⟩
  unfold rangeC at hd
  rw [List.getElem?_map, List.getElem?_range (by rw [hl] at hi; exact hi)] at hd
  cases hd
  exact Rep.mint
def rg3L : List D → Option (List D)
  | [.int i, .int j, .int c] => if (decide (0 < c) && decide (c < 1073741824) && Builtin.Range.small i j c && decide (0 ≤ Builtin.Range.rangeSize i j c)) = true then some (rangeC i c (Builtin.Range.rangeSize i j c).toNat) else none
  | _ => none
def rngI3 (mr : M (List D)) : M (List D) := do
  let ds ← mr
  lift (rg3L ds)
theorem si_range3 {X : Cx} {tg a b c : Expr} {mr : M (List D)} {p pos : Pos} (hg : Gl X "range") (hm : X.mg "range" = none) (ha : SA X [a, b, c] mr)
    (hs : starEach [a, b, c] X.env = (false, eval a X.env) :: starEach [b, c] X.env := by rfl) (hpl : (backTo pos (starEach [b, c] X.env)).any (·.1) = false := by rfl) : SI X tg (.Call (.Name "range" p) [a, b, c] [] pos) (rngI3 mr) :=
  PI.weak (pi_range3 hg hm ha hs hpl) fun σ H R h => by
    obtain ⟨F, T, bx, s, r, ds, s', e, k⟩ := h
    obtain ⟨xs, s1, e1, e⟩ := bind_ok e
    obtain ⟨e2, rfl⟩ := lift_ok e
    refine ⟨F, T, bx, s, r, xs, s', e1, fun vs bx1 H1 x1 q1 => ?_⟩
    unfold rg3L at e2
    split at e2
    · rename_i i j c
      split at e2
      · rename_i cc
        cases e2
        obtain ⟨v, vs', rfl, q2, q3⟩ := q1.uncons
        obtain ⟨v', vs'', rfl, q4, q5⟩ := q3.uncons
        obtain ⟨v2, vs3, rfl, q6, q7⟩ := q5.uncons
        rw [q7.unnil, q2.int, q4.int, q6.int]
        simp only [Bool.and_eq_true, decide_eq_true_eq] at cc
        obtain ⟨⟨⟨a1, a2⟩, a3⟩, a4⟩ := cc
        exact ⟨i, j, c, _, rfl, ⟨by omega, by omega, a3, by omega⟩, k _ bx1 H1 x1 yields_rangeC⟩
      · cases e2
    · cases e2
end L2.Pd
set_option maxHeartbeats 4000000
namespace L2.Pd
open PySem PySem.Spec PyProof.Rows
def dlenD : D → Option DB
  | .dct ks _ => some (.int (ks.length : Int), false)
  | _ => none
def dlenM (i : Nat) : M DB := do
  let d ← peek i
  lift (dlenD d)
section
variable {X : Cx} {x : Str} {p pos : Pos}
theorem call_dlenO : CallR X (.builtin "len") (fun vs H Q => ∃ x, vs = [x] ∧ PuO X.K dlenD x H Q) := by
  intro pins s σ H xs us Q I r h
  obtain ⟨x, rfl, bx, W, d, t, q, e, k⟩ := h
  cases d with
  | dct ks ds =>
    cases e
    obtain ⟨a, vs, rfl, hl, hR, hr⟩ := q.dct
    obtain ⟨u, rfl, rx⟩ := vals1 r
    cases rx
    have hz : (ks.zip vs).length = ks.length := by rw [List.length_zip, ← hr.length]; omega
    refine d_len I hR fun t s' I' => ⟨.int (ks.length : Int), H, I', ⟨t, by rw [hz]⟩, ?_⟩
    exact k _ H Grow.refl (ResN.old Rep.mint)
  | _ => cases e
theorem se_dlen (i : Nat) {pc : Pos} (hg : Gl X "len") (hm : X.mg "len" = none) (hN : X.N[i]? = some x := by rfl) (hv : Vis X.env.scope x := by first | exact Or.inl rfl | exact Or.inr (Or.inl rfl) | exact Or.inr (Or.inr rfl)) (hd : (x == ("__debug__" : Str)) = false := by decide)
    (hcd : (x == ("__classdict__" : Str)) = false := by decide) (he : starEach [.Name x p] X.env = (false, eval (.Name x p) X.env) :: starEach [] X.env := by rfl) (hpl : (backTo pos (starEach [] X.env)).any (·.1) = false := by rfl) : SE X (.Call (.Name "len" pc) [.Name x p] [] pos) (dlenM i) :=
  PE.weak (pe_callB call_dlenO hg hm boot_len (pa_cons (pe_var hN hv hd hcd) pa_nil he) (by decide) (by decide) he hpl) fun σ H Q h => by
    obtain ⟨F, T, bx, s, r, t, s', e, k⟩ := h
    obtain ⟨d, s1, e1, f1⟩ := bind_ok e
    obtain ⟨rfl, b0, h0⟩ := peek_ok e1
    obtain ⟨e4, rfl⟩ := lift_ok f1
    obtain ⟨v, hσ, hO⟩ := r.peek h0
    refine ⟨v, hσ, v, rfl, bx, _, d, t, hO, e4, fun v2 H2 g q => ?_⟩
    obtain ⟨y2, z⟩ := ResN.res r g q
    exact k v2 bx H2 y2 z
end
end L2.Pd
set_option maxHeartbeats 4000000
namespace L2.Pd
open PySem PySem.Spec PyProof.Rows
section
variable {s : S} {i : Nat} {m : M DB}
def ExtQ (s : S) (i : Nat) (Q : DB → S → Prop) : DB → Option (Option DB) → Prop
  | (.lst es, true), some (some (.lst ds, true)) => ds.length + es.length ≤ sizeLine ∧ Q (.non, false) { s with env := s.env.set i (some (.lst (ds ++ es), true)) }
  | _, _ => False
@[simp] theorem extQ_t {ds es : List D} {Q : DB → S → Prop} : ExtQ s i Q (.lst es, true) (some (some (.lst ds, true))) = (ds.length + es.length ≤ sizeLine ∧ Q (.non, false) { s with env := s.env.set i (some (.lst (ds ++ es), true)) }) := rfl
@[simp] theorem ok_ext {Q : DB → S → Prop} : Ok (extM i m) s Q = (IsOwn s.env[i]? ∧ Ok m s fun t s1 => ExtQ s1 i Q t s1.env[i]?) := by
  unfold extM; rw [ok_onOwn]; congr 1
  refine (ok_bind (m := m)).trans ?_
  congr; funext t s1
  unfold Ok ownAt putO
  obtain ⟨e, f⟩ := t
  dsimp only
  generalize s1.env[i]? = q
  cases q with
  | none => cases e <;> cases f <;> rfl
  | some o =>
    cases o with
    | none => cases e <;> cases f <;> rfl
    | some x =>
      obtain ⟨d, b⟩ := x
      cases d with
      | lst ds =>
        cases b with
        | false => cases e <;> cases f <;> rfl
        | true =>
          cases e with
          | lst es =>
            cases f with
            | true =>
              dsimp only [ExtQ]
              by_cases c : ds.length + es.length ≤ sizeLine
              · rw [if_pos c]; simp only [c, true_and]
              · rw [if_neg c]; simp only [c, false_and]
            | false => rfl
          | _ => cases f <;> rfl
      | _ => cases b <;> cases e <;> cases f <;> rfl
def GixQ (s : S) (i : Nat) (d : D) (Q : Unit → S → Prop) : D → Option (Option DB) → Prop
  | .int j, some (some (.lst ds, true)) => ∃ k, ixN ds.length j = some k ∧ Q () { s with env := s.env.set i (some (.lst (ds.set k d), true)) }
  | _, _ => False
@[simp] theorem gixQ_t {d : D} {j : Int} {ds : List D} {Q : Unit → S → Prop} : GixQ s i d Q (.int j) (some (some (.lst ds, true))) = ∃ k, ixN ds.length j = some k ∧ Q () { s with env := s.env.set i (some (.lst (ds.set k d), true)) } := rfl
@[simp] theorem ok_gix {d : D} {Q : Unit → S → Prop} : Ok (gix i m d) s Q = (IsOwn s.env[i]? ∧ Ok m s fun t s1 => GixQ s1 i d Q t.1 s1.env[i]?) := by
  unfold gix; rw [ok_onOwn]; congr 1
  refine (ok_bind (m := m)).trans ?_
  congr; funext t s1
  unfold Ok ownAt putO
  obtain ⟨e, f⟩ := t
  dsimp only
  generalize s1.env[i]? = q
  cases q with
  | none => cases e <;> rfl
  | some o =>
    cases o with
    | none => cases e <;> rfl
    | some x =>
      obtain ⟨y, b⟩ := x
      cases y with
      | lst ds =>
        cases b with
        | false => cases e <;> rfl
        | true =>
          cases e with
          | int j =>
            dsimp only [GixQ]
            cases ixN ds.length j with
            | none => simp
            | some k => simp
          | _ => rfl
      | _ => cases b <;> cases e <;> rfl
end
section
variable {s : S} {g g1 : D → M Unit} {tt tt1 : M Bool} {te : M DB} {mi mi1 : M (List D)} {vs vs1 : List Nat}
@[simp] theorem ok_lc2M {Q : DB → S → Prop} : Ok (lc2M mi g tt mi1 g1 tt1 te vs vs1) s Q = Ok mi s fun ds s1 => freeE s1.env vs = true ∧ Ok (lc2L g tt mi1 g1 tt1 te vs vs1 ds) s1 fun r s2 => r.length ≤ sizeLine ∧ Q (.lst r, true) { s2 with env := restE s1.env s2.env vs } := by
  refine (ok_bind (m := mi)).trans ?_
  congr; funext ds s1
  by_cases h : freeE s1.env vs = true
  · unfold Ok
    simp only [h, if_true, true_and]
    cases lc2L g tt mi1 g1 tt1 te vs vs1 ds s1 with
    | ok r s2 =>
      dsimp only
      by_cases h2 : r.length ≤ sizeLine
      · simp only [h2, if_true, true_and]
      · simp only [h2, if_false, false_and]
    | _ => first | rfl | (unfold Ok; rfl)
  · unfold Ok
    simp [h]
theorem ok_lc2L_cons {Q : List D → S → Prop} {d : D} {ds : List D} : Ok (lc2L g tt mi1 g1 tt1 te vs vs1 (d :: ds)) s Q = Ok (g d) { s with env := wipeE s.env vs } fun _ s1 => Ok tt s1 fun b s2 => if b = true then Ok mi1 s2 fun es s3 => Ok (lcL g1 tt1 te vs1 es) s3 fun r1 s4 => Ok (lc2L g tt mi1 g1 tt1 te vs vs1 ds) s4 fun r s5 => Q (r1 ++ r) s5 else Ok (lc2L g tt mi1 g1 tt1 te vs vs1 ds) s2 Q := by
  show Ok (wipeM vs >>= _) s Q = _
  rw [ok_bind, ok_wipeM, ok_bind]; congr; funext _ s1; rw [ok_bind]; congr; funext b s2
  cases b with
  | false => rfl
  | true =>
    simp only [if_true]
    rw [ok_bind]; congr; funext y s3; rw [ok_bind]; congr; funext y s4; rw [ok_bind]; congr; funext y s5; (first | rfl | (unfold Ok; rfl))
theorem ok_lc2L {Q : List D → S → Prop} (I : Nat → List D → S → Prop) (ds : List D) (h0 : I 0 [] s)
    (hs : ∀ (i : Nat) (d : D) (acc : List D) (s : S), ds[i]? = some d → I i acc s → Ok (g d) { s with env := wipeE s.env vs } fun _ s1 => Ok tt s1 fun b s2 => if b = true then Ok mi1 s2 fun es s3 => Ok (lcL g1 tt1 te vs1 es) s3 fun r s4 => I (i + 1) (acc ++ r) s4 else I (i + 1) acc s2) (he : ∀ acc s, I ds.length acc s → Q acc s) : Ok (lc2L g tt mi1 g1 tt1 te vs vs1 ds) s Q := by
  have key : ∀ (ds : List D) (n : Nat) (acc : List D) (s : S) (Q : List D → S → Prop), (∀ (i : Nat) (d : D) (acc : List D) (s : S), ds[i]? = some d → I (n + i) acc s → Ok (g d) { s with env := wipeE s.env vs } fun _ s1 => Ok tt s1 fun b s2 => if b = true then Ok mi1 s2 fun es s3 => Ok (lcL g1 tt1 te vs1 es) s3 fun r s4 => I (n + i + 1) (acc ++ r) s4 else I (n + i + 1) acc s2) →
      (∀ r s, I (n + ds.length) (acc ++ r) s → Q r s) → I n acc s → Ok (lc2L g tt mi1 g1 tt1 te vs vs1 ds) s Q := by
    intro ds
    induction ds with
    | nil => exact fun n acc s Q _ he h => by unfold Ok; exact he [] s (by rw [List.append_nil]; exact h)
    | cons d ds ih =>
      intro n acc s Q hs he h
      rw [ok_lc2L_cons]
      have hs' : ∀ (i : Nat) (d : D) (acc : List D) (s : S), ds[i]? = some d → I (n + 1 + i) acc s → Ok (g d) { s with env := wipeE s.env vs } fun _ s1 => Ok tt s1 fun b s2 => if b = true then Ok mi1 s2 fun es s3 => Ok (lcL g1 tt1 te vs1 es) s3 fun r s4 => I (n + 1 + i + 1) (acc ++ r) s4 else I (n + 1 + i + 1) acc s2 := fun i d acc s hd hi => by
        rw [show n + 1 + i = n + (i + 1) by omega] at hi ⊢; exact hs (i + 1) d acc s hd hi
      refine (hs 0 d acc s rfl h).mono fun _ s1 h1 => h1.mono fun b s2 h2 => ?_
      cases b with
      | true =>
        have h2 : Ok mi1 s2 fun es s3 => Ok (lcL g1 tt1 te vs1 es) s3 fun r s4 => I (n + 0 + 1) (acc ++ r) s4 := h2
        show Ok mi1 s2 _
        refine h2.mono fun es s3 h3 => h3.mono fun r1 s4 h4 => ih (n + 1) (acc ++ r1) s4 _ hs' (fun r s hi => ?_) h4
        refine he _ _ ?_
        rw [List.length_cons, show n + (ds.length + 1) = n + 1 + ds.length by omega]
        rw [List.append_assoc] at hi
        exact hi
      | false =>
        exact ih (n + 1) acc s2 _ hs' (fun r s hi => he _ _ (by rw [List.length_cons, show n + (ds.length + 1) = n + 1 + ds.length by omega]; exact hi)) h2
  exact key ds 0 [] s Q (fun i d acc s hd hi => by rw [Nat.zero_add] at hi ⊢; exact hs i d acc s hd hi) (fun r s hi => he r s (by rw [Nat.zero_add, List.nil_append] at hi; exact hi)) h0
end
end L2.Pd
set_option maxHeartbeats 4000000
namespace L2.Pd
open PySem PySem.Spec PyProof.Rows
section
variable {g : D → M Unit} {tt : M Bool} {te tk tv : M DB} {vs : List Nat} {s : S} {ws : List Nat} {α : Type}
@[simp] theorem ok_dcM {mi : M (List D)} {Q : DB → S → Prop} : Ok (dcM mi g tt tk tv vs) s Q = Ok mi s fun ds s1 => freeE s1.env vs = true ∧ Ok (dcL g tt tk tv vs ds [] []) s1 fun r s2 => Q (.dct r.1 r.2, true) { s2 with env := restE s1.env s2.env vs } := by
  refine (ok_bind (m := mi)).trans ?_
  congr; funext ds s1
  by_cases h : freeE s1.env vs = true
  · unfold Ok
    simp only [h, if_true, true_and]
    cases dcL g tt tk tv vs ds [] [] s1 with
    | ok r s2 => rfl
    | _ => first | rfl | (unfold Ok; rfl)
  · unfold Ok
    simp [h]
theorem ok_dcL_nil {ks : List L2.Key} {ds : List D} {Q : List L2.Key × List D → S → Prop} : Ok (dcL g tt tk tv vs [] ks ds) s Q = Q (ks, ds) s := by
  unfold dcL; exact ok_pure
def PutQ (g : D → M Unit) (tt : M Bool) (tk tv : M DB) (vs : List Nat) (xs : List D) (ks : List L2.Key) (ds : List D) (s : S) (Q : List L2.Key × List D → S → Prop) (z : D) : Option L2.Key → Prop
  | some k => ks.length < sizeLine ∧ Ok (dcL g tt tk tv vs xs (putKs ks k) (putDs ks ds k z)) s Q
  | none => False
theorem ok_dcL_cons {x : D} {xs : List D} {ks : List L2.Key} {ds : List D} {Q : List L2.Key × List D → S → Prop} : Ok (dcL g tt tk tv vs (x :: xs) ks ds) s Q =
    Ok (g x) { s with env := wipeE s.env vs } fun _ s1 => Ok tt s1 fun b s2 => if b = true then Ok tk s2 fun y s3 => Ok tv s3 fun z s4 => PutQ g tt tk tv vs xs ks ds s4 Q z.1 (keyOf y.1) else Ok (dcL g tt tk tv vs xs ks ds) s2 Q := by
  show Ok (wipeM vs >>= _) s Q = _
  rw [ok_bind, ok_wipeM, ok_bind]; congr; funext _ s1; rw [ok_bind]; congr; funext b s2
  cases b with
  | false => rfl
  | true =>
    simp only [if_true]
    rw [ok_bind]; congr; funext y s3; rw [ok_bind]; congr; funext z s4
    unfold PutQ
    cases keyOf y.1 with
    | none => unfold Ok; rfl
    | some k =>
      dsimp only
      by_cases h : ks.length < sizeLine
      · simp only [h, true_and]
        unfold Ok
        simp only [h, if_true]
      · simp only [h, false_and]
        unfold Ok
        simp only [h, if_false]
/-- a comprehension whose keys are ints, all unlike: draws nothing -/
theorem dcL_pure {xs : List α} {f : α → D} (p : α → Bool) (k : α → Int) (h : α → D) (hn : ((xs.filter p).map k).Nodup) (hz : xs.length ≤ sizeLine)
    (hs : ∀ x ∈ xs, Ok (g (f x)) ⟨wipeE s.env vs, s.st⟩ fun _ s1 => Ok tt s1 fun b s2 => b = p x ∧ if p x = true then Ok tk s2 fun y s3 => Ok tv s3 fun z s4 => y.1 = .int (k x) ∧ z.1 = h x ∧ s4.st = s.st ∧ wipeE s4.env vs = wipeE s.env vs else s2.st = s.st ∧ wipeE s2.env vs = wipeE s.env vs)
    {Q : List L2.Key × List D → S → Prop} (hQ : ∀ E, restE s.env E vs = s.env → Q ((xs.filter p).map (fun x => .inl (k x)), (xs.filter p).map h) ⟨E, s.st⟩) : Ok (dcL g tt tk tv vs (xs.map f) [] []) s Q := by
  have key : ∀ (ys pre : List α) (e : Ev), pre ++ ys = xs → wipeE e vs = wipeE s.env vs → Ok (dcL g tt tk tv vs (ys.map f) ((pre.filter p).map fun x => (.inl (k x) : L2.Key)) ((pre.filter p).map h)) ⟨e, s.st⟩ Q := by
    intro ys
    induction ys with
    | nil =>
      intro pre e hp he
      rw [List.append_nil] at hp
      subst hp
      rw [List.map_nil, ok_dcL_nil]
      exact hQ e (wipe_rest he)
    | cons y ys ih =>
      intro pre e hp he
      rw [List.map_cons, ok_dcL_cons]
      have hy : y ∈ xs := by rw [← hp]; simp
      show Ok (g (f y)) ⟨wipeE e vs, s.st⟩ _
      rw [he]
      refine (hs y hy).mono fun _ s1 h1 => h1.mono fun b s2 h2 => ?_
      obtain ⟨rfl, h2⟩ := h2
      by_cases c : p y = true
      · simp only [c, if_true] at h2 ⊢
        refine h2.mono fun yy s3 h3 => h3.mono fun zz s4 h4 => ?_
        obtain ⟨e1, e2, e3, e4⟩ := h4
        rw [e1, e2]
        have nin : ((pre.filter p).map fun x => (.inl (k x) : L2.Key)).any (fun j => decide (j = .inl (k y))) = false := by
          rw [List.any_eq_false]
          intro j hj
          obtain ⟨x, hx, rfl⟩ := List.mem_map.mp hj
          have hsub : ((pre.filter p).map k ++ (y :: ys.filter p).map k).Nodup := by
            have : xs.filter p = pre.filter p ++ y :: ys.filter p := by rw [← hp, List.filter_append, List.filter_cons_of_pos c]
            rw [this, List.map_append] at hn
            exact hn
          have := (List.nodup_append.mp hsub).2.2 (k x) (List.mem_map.mpr ⟨x, hx, rfl⟩) (k y) (by simp)
          simp
          exact this
        refine ⟨?_, ?_⟩
        · rw [List.length_map]
          have l1 := List.length_filter_le p pre
          have l2 : pre.length + (ys.length + 1) = xs.length := by rw [← hp]; simp
          omega
        · unfold putKs putDs
          simp only [nin, Bool.false_eq_true, if_false]
          have := ih (pre ++ [y]) s4.env (by rw [← hp]; simp) (by rw [e4])
          rw [List.filter_append, List.filter_cons_of_pos c] at this
          simp only [List.filter_nil, List.map_append, List.map_cons, List.map_nil] at this
          obtain ⟨E4, S4⟩ := s4
          have e3 : S4 = s.st := e3
          subst e3
          exact this
      · have c' : p y = false := by simpa using c
        simp only [c', Bool.false_eq_true, if_false] at h2 ⊢
        have := ih (pre ++ [y]) s2.env (by rw [← hp]; simp) (by rw [h2.2])
        rw [List.filter_append, List.filter_cons_of_neg (by simp [c'])] at this
        simp only [List.filter_nil, List.append_nil] at this
        obtain ⟨E2, S2⟩ := s2
        have e3 : S2 = s.st := h2.1
        subst e3
        exact this
  have := key xs [] s.env rfl rfl
  exact this
def LockQ {α : Type} (s : S) (i : Nat) (m : M α) (Q : α → S → Prop) : Option (Option DB) → Prop
  | some (some (.dct ks ds, _)) => Ok m { s with env := s.env.set i (some (.dct ks ds, false)) } Q
  | _ => False
theorem ok_lockM {m : M α} {i : Nat} {Q : α → S → Prop} {ks : List L2.Key} {ds : List D} {b : Bool} (h : s.env[i]? = some (some (.dct ks ds, b))) : Ok (lockM i m) s Q = Ok m { s with env := s.env.set i (some (.dct ks ds, false)) } Q := by
  unfold Ok lockM
  rw [h]
theorem ok_dctM {i : Nat} {f : List L2.Key → List D → α} {Q : α → S → Prop} {ks : List L2.Key} {ds : List D} (h : s.env[i]? = some (some (.dct ks ds, false))) : Ok (dctM i f) s Q = Q (f ks ds) s := by
  unfold Ok dctM
  rw [h]
theorem ok_valsM {i : Nat} {Q : List D → S → Prop} {ks : List L2.Key} {ds : List D} (h : s.env[i]? = some (some (.dct ks ds, false))) : Ok (valsM i) s Q = Q ds s := ok_dctM h
end
end L2.Pd
set_option maxHeartbeats 4000000
namespace PySem.AutoSeq1
open PySem.MeetsSeq
theorem list_extend_lst (l : Addr) (items : Array Value) (n : Nat) (b : Addr) (items2 : Array Value) (n2 : Nat) (dd : Option Addr) (sl : Array (Option Value)) (hs0 : ¬(!items.isEmpty && Builtin.List.listTooLong (items.size + items2.size)) = true) (hs1 : items.size ≤ sizeLine) (hs2 : items.size + items2.size ≤ sizeLine + 1) :
    Meets (Builtin.«list.extend» ⟨[.ref l, .ref b], []⟩) (fun _ R s => s.heap.get? l = some { cls := .type "list", dict := none, data := .seq items n, slots := #[] } ∧ s.heap.get? b = some { cls := .type "list", dict := dd, data := .seq items2 n2, slots := sl } ∧ R (.ok (.ret Value.none)) { s with heap := s.heap.update l (Obj.mapSeq fun x => x ++ items2), toks := s.toks }) :=
  .of_wp fun prog w A R s h => by
    obtain ⟨hp, g, d, tk, os⟩ := s; obtain ⟨hl, hb, h⟩ := h; have f1 := idx_int; have f2 := sub_tuple_tuple; have f3 := sub_list_list; have f4 := sub_tuple_list; have f5 := sub_list_tuple;
    have hz' : (items ++ items2).size ≤ sizeLine + 1 := by rw [Array.size_append]; exact hs2
    wp_walk using (wpAny_updateSeq hl rfl (hz := hs1) (_hz' := hz')), wpAny_loadPart' hl, wpAny_loadPart' hb; exact ⟨_, rfl, h⟩
end PySem.AutoSeq1
namespace L2.Pd
open PySem PySem.Spec PyProof.Rows
section
variable {X : Cx}
def rExtendA (K : PySem.W.Frag) : V → List V → Hp → VK → Prop := fun x vs H Q => ∃ l b xs zs, x = .ref l ∧ vs = [.ref b] ∧ H l = some (.lst xs) ∧ (SqT K H b zs ∨ SqL K H b zs) ∧ xs.length + zs.length ≤ sizeLine ∧ Q .non (upd H l (.lst (xs ++ zs)))
theorem mt_extendA : MtM X "list.extend" (rExtendA X.K) := by
  intro pins s σ H x vs v us Q I rx rv h
  obtain ⟨l, b, xs, zs, rfl, rfl, hH, hB | hB, hz, q⟩ := h
  · exact mt_extendT pins s σ H _ _ v us Q I rx rv ⟨l, b, xs, zs, rfl, rfl, hH, hB, hz, q⟩
  · cases rx
    obtain ⟨u, rfl, ru⟩ := rv.one
    cases ru
    obtain ⟨z, its, n, r, hl, e⟩ := I.lstM hH
    obtain ⟨its2, r2, ⟨⟨cls, dd, data, sl⟩, n2, ho, hc, hdd, hd⟩, hl2⟩ := I.list hB
    simp only at hc hd hdd
    subst hc hd hdd
    have l2 := r2.length
    have hsz : its.toArray.size + its2.toArray.size ≤ sizeLine := by rw [List.size_toArray, List.size_toArray]; omega
    have hlong : ¬ (!its.toArray.isEmpty && Builtin.List.listTooLong (its.toArray.size + its2.toArray.size)) = true := by
      rw [notLongL hsz, Bool.and_false]
      exact Bool.false_ne_true
    refine call_meets F.slot_list_extend ⟨_, e, rfl⟩ F.entry_list_extend (F.args_list_extend_2 _ _)
      (AutoSeq1.list_extend_lst l its.toArray n b its2.toArray n2 none sl hlong (by rw [List.size_toArray]; omega) (by omega)) ⟨e, ho, ?_⟩
    refine ⟨.non, _, I.lset (its' := its ++ its2) hH e (by simp) (r.append r2) ?_, rfl, q⟩
    rw [List.length_append]
    omega
def extAM (i : Nat) (m : M DB) : M DB := onOwn i do
  let t ← m
  fun s => match ownAt s i, seqD t.1 with
    | some ds, some es => if ds.length + es.length ≤ sizeLine then .ok (.non, false) (putO s i (ds ++ es)) else .no
    | _, _ => .no
variable {a : Expr} {ma : M DB} {x : Str} {p apos cpos : Pos}
theorem se_extA (i : Nat) (ha : SE X a ma) (hN : X.N[i]? = some x := by rfl) (hv : Vis X.env.scope x := by first | exact Or.inl rfl | exact Or.inr (Or.inl rfl) | exact Or.inr (Or.inr rfl)) (hd : (x == ("__debug__" : Str)) = false := by decide)
    (hcd : (x == ("__classdict__" : Str)) = false := by decide)
    (hbase : attributeBase (.Name x p) "extend" X.env (eval (.Name x p) X.env) = eval (.Name x p) X.env := by rfl)
    (hfew : ((backTo cpos (starEach [a] X.env)).all (fun x => !x.1) && (backToKw cpos (keywordEach [] X.env)).all (fun x => x.1.isSome)
      && decide ([a].length + ([] : List Keyword).length + (if ([] : List Keyword).isEmpty then 0 else 1) < 30)) = true := by rfl)
    (hline : (apos.endLine == cpos.line) = true := by rfl) (hs : starEach [a] X.env = (false, eval a X.env) :: starEach [] X.env := by rfl) (hplain : (backTo cpos (starEach [] X.env)).any (·.1) = false := by rfl) :
    SE X (.Call (.Attribute (.Name x p) "extend" apos) [a] [] cpos) (extAM i ma) :=
  PE.weak (pe_bm PySem.F.plainAttrs_list PySem.F.slot_list_extend PySem.F.type_list_extend mt_extendA (pe_var hN hv hd hcd) (pa_cons ha.d pa_nil hs) hbase hfew hline hs hplain) fun σ H Q h => by
    obtain ⟨F, T, bx, s, r, t, s', e, k⟩ := h
    obtain ⟨⟨ds0, h0⟩, e⟩ := onOwn_ok e
    obtain ⟨u, s1, e1, f1⟩ := bind_ok e
    obtain ⟨l, xs0, hσ, hH, _⟩ := r.own h0
    refine ⟨.ref l, hσ, .inl ⟨rfl, xs0, .inl (.inl hH)⟩, F, T, bx, s, r, u.1, s1, by rw [bind_run, e1]; rfl, fun v bx1 H1 x1 q1 => ?_⟩
    split at f1
    · rename_i ds es hds hu
      split at f1
      · rename_i c
        cases f1
        have sq : ∃ b ys, v = V.ref b ∧ (SqT X.K H1 b ys ∨ SqL X.K H1 b ys) ∧ RepL X.K bx1 (Wf F s1 σ T) H1 es ys := by
          obtain ⟨ud, uf⟩ := u
          cases ud with
          | tup es' =>
            have : es' = es := Option.some.inj hu
            subst this
            obtain ⟨b, ys, rfl, hB, hR2⟩ := q1.tup
            exact ⟨b, ys, rfl, .inl hB, hR2⟩
          | lst es' =>
            have : es' = es := Option.some.inj hu
            subst this
            obtain ⟨b, ys, rfl, hB, hR2⟩ := q1.lst
            exact ⟨b, ys, rfl, .inr hB, hR2⟩
          | _ => cases hu
        obtain ⟨b, ys, rfl, hB, hR2⟩ := sq
        obtain ⟨l', xs, hσ', hH', hR⟩ := x1.rel.own hds
        rw [hσ] at hσ'; cases hσ'
        have x2 := x1.rel.mut hds hσ hH' (hR.append hR2)
        exact ⟨l, b, xs, ys, rfl, rfl, hH', hB, by rw [← hR.length, ← hR2.length]; exact c, k .non bx1 _ (x1.trans x2) (Res.old Rep.mnon)⟩
      · cases f1
    · cases f1
end
end L2.Pd
set_option maxHeartbeats 4000000
namespace L2.Pd
open PySem PySem.Spec PyProof.Rows
section
variable {s : S} {i : Nat} {m : M DB}
def ExtAQ (s : S) (i : Nat) (Q : DB → S → Prop) (t : D) : Option (Option DB) → Prop
  | some (some (.lst ds, true)) => ∃ es, seqD t = some es ∧ ds.length + es.length ≤ sizeLine ∧ Q (.non, false) { s with env := s.env.set i (some (.lst (ds ++ es), true)) }
  | _ => False
@[simp] theorem extAQ_t {t : D} {ds : List D} {Q : DB → S → Prop} : ExtAQ s i Q t (some (some (.lst ds, true))) = ∃ es, seqD t = some es ∧ ds.length + es.length ≤ sizeLine ∧ Q (.non, false) { s with env := s.env.set i (some (.lst (ds ++ es), true)) } := rfl
@[simp] theorem ok_extA {Q : DB → S → Prop} : Ok (extAM i m) s Q = (IsOwn s.env[i]? ∧ Ok m s fun t s1 => ExtAQ s1 i Q t.1 s1.env[i]?) := by
  unfold extAM; rw [ok_onOwn]; congr 1
  refine (ok_bind (m := m)).trans ?_
  congr; funext t s1
  unfold Ok ownAt putO
  obtain ⟨e, f⟩ := t
  dsimp only
  generalize s1.env[i]? = q
  have no : ∀ {p : Prop}, (∃ es, seqD e = some es ∧ p) → True := fun _ => trivial
  cases q with
  | none => cases seqD e <;> rfl
  | some o =>
    cases o with
    | none => cases seqD e <;> rfl
    | some x =>
      obtain ⟨d, b⟩ := x
      cases d with
      | lst ds =>
        cases b with
        | false => cases seqD e <;> rfl
        | true =>
          dsimp only [ExtAQ]
          cases h : seqD e with
          | none =>
            refine propext ⟨fun z => z.elim, fun z => ?_⟩
            obtain ⟨es, h', _⟩ := z
            cases h'
          | some es =>
            dsimp only
            by_cases c : ds.length + es.length ≤ sizeLine
            · rw [if_pos c]
              refine propext ⟨fun z => ⟨es, rfl, c, z⟩, fun z => ?_⟩
              obtain ⟨es', h', _, z⟩ := z
              cases h'
              exact z
            · rw [if_neg c]
              refine propext ⟨fun z => z.elim, fun z => ?_⟩
              obtain ⟨es', h', c', z⟩ := z
              cases h'
              exact c c'
      | _ => cases seqD e <;> rfl
end
end L2.Pd
set_option maxHeartbeats 0
namespace L2.Pd.K23
open PySem PySem.Spec PyProof.Rows L2 L2.Pd
def e__law_take : He.DefD := ⟨("_law_take", none), "_law_take", "_law_take", defArgs s__law_take, defBody s__law_take, defScope s__law_take, [], []⟩
def e__law_classes : He.DefD := ⟨("_law_classes", none), "_law_classes", "_law_classes", defArgs s__law_classes, defBody s__law_classes, defScope s__law_classes, [], []⟩
def e__law_single_rule : He.DefD := ⟨("_law_single_rule", none), "_law_single_rule", "_law_single_rule", defArgs s__law_single_rule, defBody s__law_single_rule, defScope s__law_single_rule, [], []⟩
def e__law_bounded : He.DefD := ⟨("_law_bounded", none), "_law_bounded", "_law_bounded", defArgs s__law_bounded, defBody s__law_bounded, defScope s__law_bounded, [], []⟩
def e__law_any_rule : He.DefD := ⟨("_law_any_rule", none), "_law_any_rule", "_law_any_rule", defArgs s__law_any_rule, defBody s__law_any_rule, defScope s__law_any_rule, [], []⟩
def e__law_drawn_rule : He.DefD := ⟨("_law_drawn_rule", none), "_law_drawn_rule", "_law_drawn_rule", defArgs s__law_drawn_rule, defBody s__law_drawn_rule, defScope s__law_drawn_rule, [], []⟩
def e__law_words : He.DefD := ⟨("_law_words", none), "_law_words", "_law_words", defArgs s__law_words, defBody s__law_words, defScope s__law_words, [], []⟩
def e_is_number : He.DefD := ⟨("is_number", none), "is_number", "is_number", defArgs s_is_number, defBody s_is_number, defScope s_is_number, [.int 0, .non], []⟩
def e_is_part : He.DefD := ⟨("is_part", none), "is_part", "is_part", defArgs s_is_part, defBody s_is_part, defScope s_is_part, [], []⟩
def e_check_rule : He.DefD := ⟨("check_rule", none), "check_rule", "check_rule", defArgs s_check_rule, defBody s_check_rule, defScope s_check_rule, [.bl false], []⟩
def e_show_rule : He.DefD := ⟨("show_rule", none), "show_rule", "show_rule", defArgs s_show_rule, defBody s_show_rule, defScope s_show_rule, [], []⟩
def e_figures_of : He.DefD := ⟨("figures_of", none), "figures_of", "figures_of", defArgs s_figures_of, defBody s_figures_of, defScope s_figures_of, [], []⟩
def e_read_part : He.DefD := ⟨("read_part", none), "read_part", "read_part", defArgs s_read_part, defBody s_read_part, defScope s_read_part, [], []⟩
def e_is_rule : He.DefD := ⟨("is_rule", none), "is_rule", "is_rule", defArgs s_is_rule, defBody s_is_rule, defScope s_is_rule, [], []⟩
def e_read_rule : He.DefD := ⟨("read_rule", none), "read_rule", "read_rule", defArgs s_read_rule, defBody s_read_rule, defScope s_read_rule, [], []⟩
def e__law_right : He.DefD := ⟨("_law_right", none), "_law_right", "_law_right", defArgs s__law_right, defBody s__law_right, defScope s__law_right, [], []⟩
def e__law_purse : He.DefD := ⟨("_law_purse", none), "_law_purse", "_law_purse", defArgs s__law_purse, defBody s__law_purse, defScope s__law_purse, [], []⟩
def e__law_cell : He.DefD := ⟨("_law_cell", none), "_law_cell", "_law_cell", defArgs s__law_cell, defBody s__law_cell, defScope s__law_cell, [], []⟩
def e_law : He.DefD := ⟨("law", none), "law", "law", defArgs s_law, defBody s_law, defScope s_law, [], []⟩
def fnL : List He.DefD := [e__law_take, e__law_classes, e__law_single_rule, e__law_bounded, e__law_any_rule, e__law_drawn_rule, e__law_words, e_is_number, e_is_part, e_check_rule, e_show_rule, e_figures_of, e_read_part, e_is_rule, e_read_rule, e__law_right, e__law_purse, e__law_cell, e_law]
def ownL : List (PySem.W.Frag → Bool) := []
def lamL : List (PySem.W.Frag → Bool) := []
def fx (K : PySem.W.Frag) : Bool := lamL.all (fun c => c K) && ownL.all (fun c => c K)
def faL : List He.Fa := [.glo "_law_take", .glo "_law_classes", .glo "_law_single_rule", .glo "_law_bounded", .glo "_law_any_rule", .glo "_law_drawn_rule", .glo "_law_words", .glo "is_number", .glo "is_part", .glo "check_rule", .glo "show_rule", .glo "figures_of", .glo "read_part", .glo "is_rule", .glo "read_rule", .glo "_law_right", .glo "_law_purse", .glo "_law_cell", .glo "law", .free "abs", .free "all", .free "bool", .free "enumerate", .free "int", .free "isinstance", .free "len", .free "list", .free "max", .free "min", .free "range", .free "repr", .free "str", .free "tuple", .str "FIGURES" "0123456789", .int "MOST_PARTS" 12]
abbrev R0 : PySem.W.OpenRow := PySem.W.OpenLaw.row PySem.Challenge.rw_endlessinn_k23_rule_texts
abbrev hk : PySem.W.Hook := hookT 4 fx faL fnL
def ob (s : PySem.W.SharedT) : AlT := obsTG 4 fx faL fnL (HandSHeadRun.getT s)
theorem ob_eq (s : PySem.W.SharedT) : ob s = hk.obs s.abs := obsTG_eq (HandSHeadRun.getT_eq s)
def looseN0 : List Str := ["InnError", "NoRule", "NoText", "is_number", "MOST_PARTS", "is_part", "is_rule", "check_rule", "FIGURES", "figures_of", "show_rule", "read_part", "read_rule", "_law_cell", "_law_purse", "_law_take", "_law_classes", "_law_single_rule", "_law_bounded", "_law_any_rule", "_law_drawn_rule", "_law_words", "_law_right"]
def looseN : List Str := looseN0
theorem run (w : World) : HandSHeadRun.RunEq R0 (PySem.W.view R0.prog [28]) hk ob 40000 looseN w := by
  intro os
  kernel_rfl
theorem fx_lam {K : PySem.W.Frag} (h : fx K = true) (i : Nat) {g : PySem.W.Frag → Bool} (e : lamL[i]? = some g) : g K = true := List.all_eq_true.mp (Bool.and_eq_true_iff.mp h).1 g (List.mem_of_getElem? e)
theorem tx_law {K : PySem.W.Frag} {h : Heap} {mg : Str → Option Value} (X : K.In h) (G : h.Ns mainGlobals mg) (c : He.SaysD faL fnL K) (cx : fx K = true) : ∃ (f : Addr) (fd : FuncData), FunD K "law" "law" (defArgs s_law) (defBody s_law) (defScope s_law) [] [] f fd ∧ mg "law" = some (.ref f) := let ⟨fd, F⟩ := c.def_ 18 (d := e_law) rfl; ⟨_, fd, F, He.glo_ok X G (c.fact 18 (f := .glo "law") rfl)⟩
theorem tx {K : PySem.W.Frag} {h : Heap} {mg : Str → Option Value} (X : K.In h) (G : h.Ns mainGlobals mg) (c : He.SaysD faL fnL K) (cx : fx K = true) : Tx K mg where
  g_abs := He.free_ok X G (c.fact 19 (f := .free "abs") rfl)
  g_all := He.free_ok X G (c.fact 20 (f := .free "all") rfl)
  g_bool := He.free_ok X G (c.fact 21 (f := .free "bool") rfl)
  g_enumerate := He.free_ok X G (c.fact 22 (f := .free "enumerate") rfl)
  g_int := He.free_ok X G (c.fact 23 (f := .free "int") rfl)
  g_isinstance := He.free_ok X G (c.fact 24 (f := .free "isinstance") rfl)
  g_len := He.free_ok X G (c.fact 25 (f := .free "len") rfl)
  g_list := He.free_ok X G (c.fact 26 (f := .free "list") rfl)
  g_max := He.free_ok X G (c.fact 27 (f := .free "max") rfl)
  g_min := He.free_ok X G (c.fact 28 (f := .free "min") rfl)
  g_range := He.free_ok X G (c.fact 29 (f := .free "range") rfl)
  g_repr := He.free_ok X G (c.fact 30 (f := .free "repr") rfl)
  g_str := He.free_ok X G (c.fact 31 (f := .free "str") rfl)
  g_tuple := He.free_ok X G (c.fact 32 (f := .free "tuple") rfl)
  j_FIGURES := He.str_ok X G (c.fact 33 (f := .str "FIGURES" "0123456789") rfl)
  j_MOST_PARTS := He.int_ok X G (c.fact 34 (f := .int "MOST_PARTS" 12) rfl)
  d__law_take := let ⟨fd, F⟩ := c.def_ 0 (d := e__law_take) rfl; ⟨_, fd, F, He.glo_ok X G (c.fact 0 (f := .glo "_law_take") rfl)⟩
  d__law_classes := let ⟨fd, F⟩ := c.def_ 1 (d := e__law_classes) rfl; ⟨_, fd, F, He.glo_ok X G (c.fact 1 (f := .glo "_law_classes") rfl)⟩
  d__law_single_rule := let ⟨fd, F⟩ := c.def_ 2 (d := e__law_single_rule) rfl; ⟨_, fd, F, He.glo_ok X G (c.fact 2 (f := .glo "_law_single_rule") rfl)⟩
  d__law_bounded := let ⟨fd, F⟩ := c.def_ 3 (d := e__law_bounded) rfl; ⟨_, fd, F, He.glo_ok X G (c.fact 3 (f := .glo "_law_bounded") rfl)⟩
  d__law_any_rule := let ⟨fd, F⟩ := c.def_ 4 (d := e__law_any_rule) rfl; ⟨_, fd, F, He.glo_ok X G (c.fact 4 (f := .glo "_law_any_rule") rfl)⟩
  d__law_drawn_rule := let ⟨fd, F⟩ := c.def_ 5 (d := e__law_drawn_rule) rfl; ⟨_, fd, F, He.glo_ok X G (c.fact 5 (f := .glo "_law_drawn_rule") rfl)⟩
  d__law_words := let ⟨fd, F⟩ := c.def_ 6 (d := e__law_words) rfl; ⟨_, fd, F, He.glo_ok X G (c.fact 6 (f := .glo "_law_words") rfl)⟩
  d_is_number := let ⟨fd, F⟩ := c.def_ 7 (d := e_is_number) rfl; ⟨_, fd, F, He.glo_ok X G (c.fact 7 (f := .glo "is_number") rfl)⟩
  d_is_part := let ⟨fd, F⟩ := c.def_ 8 (d := e_is_part) rfl; ⟨_, fd, F, He.glo_ok X G (c.fact 8 (f := .glo "is_part") rfl)⟩
  d_check_rule := let ⟨fd, F⟩ := c.def_ 9 (d := e_check_rule) rfl; ⟨_, fd, F, He.glo_ok X G (c.fact 9 (f := .glo "check_rule") rfl)⟩
  d_show_rule := let ⟨fd, F⟩ := c.def_ 10 (d := e_show_rule) rfl; ⟨_, fd, F, He.glo_ok X G (c.fact 10 (f := .glo "show_rule") rfl)⟩
  d_figures_of := let ⟨fd, F⟩ := c.def_ 11 (d := e_figures_of) rfl; ⟨_, fd, F, He.glo_ok X G (c.fact 11 (f := .glo "figures_of") rfl)⟩
  d_read_part := let ⟨fd, F⟩ := c.def_ 12 (d := e_read_part) rfl; ⟨_, fd, F, He.glo_ok X G (c.fact 12 (f := .glo "read_part") rfl)⟩
  d_is_rule := let ⟨fd, F⟩ := c.def_ 13 (d := e_is_rule) rfl; ⟨_, fd, F, He.glo_ok X G (c.fact 13 (f := .glo "is_rule") rfl)⟩
  d_read_rule := let ⟨fd, F⟩ := c.def_ 14 (d := e_read_rule) rfl; ⟨_, fd, F, He.glo_ok X G (c.fact 14 (f := .glo "read_rule") rfl)⟩
  d__law_right := let ⟨fd, F⟩ := c.def_ 15 (d := e__law_right) rfl; ⟨_, fd, F, He.glo_ok X G (c.fact 15 (f := .glo "_law_right") rfl)⟩
  d__law_purse := let ⟨fd, F⟩ := c.def_ 16 (d := e__law_purse) rfl; ⟨_, fd, F, He.glo_ok X G (c.fact 16 (f := .glo "_law_purse") rfl)⟩
  d__law_cell := let ⟨fd, F⟩ := c.def_ 17 (d := e__law_cell) rfl; ⟨_, fd, F, He.glo_ok X G (c.fact 17 (f := .glo "_law_cell") rfl)⟩
  d_law := let ⟨fd, F⟩ := c.def_ 18 (d := e_law) rfl; ⟨_, fd, F, He.glo_ok X G (c.fact 18 (f := .glo "law") rfl)⟩
end L2.Pd.K23
open PySem PySem.W PySem.Calls PyProof.Rows
theorem L2.Pd.K23.holds_of (hl : ∀ ns : List Int, ns.length ≤ 63 → ∃ t st, L2.Pd.K23.f_law [.lst (ns.map L2.Pd.D.int)] [] = .ok t st ∧ t.1 = .bl true ∧ t.2 = false) : PySem.Challenge.rw_endlessinn_k23_rule_texts.Holds := by
  w_on; o_law
  refine HandSHeadRun.head_any (r := OpenLaw.row PySem.Challenge.rw_endlessinn_k23_rule_texts) (q := view (OpenLaw.row PySem.Challenge.rw_endlessinn_k23_rule_texts).prog [28]) (H := L2.Pd.K23.hk) (ob := L2.Pd.K23.ob) (M := 40000) (loose := L2.Pd.K23.looseN) (d := HandSHeadRun.topDef (OpenLaw.row PySem.Challenge.rw_endlessinn_k23_rule_texts).prog 28) (kwd := []) L2.Pd.K23.ob_eq
    (by kernel_rfl) (fun s => by kernel_rfl) L2.Pd.K23.run (by kernel_rfl) (by kernel_rfl) (by kernel_rfl) (by rfl) (by first | assumption | decide +kernel) (by decide +kernel) ⟨rfl, rfl, rfl, rfl, rfl, by decide +kernel⟩ ?hw ?hc
  case hw => w_witness2
  case hc =>
    refine L2.Pd.walk_law (l := PySem.Challenge.rw_endlessinn_k23_rule_texts) (k := 6) (x := "_law_script") (fn := L2.Pd.K23.f_law) rfl (by kernel_rfl) ⟨rfl, by decide, by decide⟩ hl ?F
    intro w mg fa h Y G hmg0
    obtain ⟨K, KX, c⟩ := Y
    have hmg : mg ("law" : PySem.Str) = some (.ref fa) := by
      have e : (HandSHeadRun.topDef (OpenLaw.row PySem.Challenge.rw_endlessinn_k23_rule_texts).prog 28).name = ("law" : PySem.Str) := by kernel_rfl
      rw [← e]
      exact hmg0
    obtain ⟨f, fd, FD, hm⟩ := L2.Pd.K23.tx_law KX G c.d c.x
    have ef := hm.symm.trans hmg
    cases ef
    have b := L2.FunD.bindsA (ps := ["_law_script"]) FD fun _ _ _ _ _ _ us hl => match us, hl with | [_], _ => rfl
    refine ⟨K, fd, KX, c.tab, fun s v => b s [v] rfl, fun base hKb hNs htb => ?_⟩
    have T' := L2.Pd.K23.tx KX G c.d c.x
    obtain ⟨f', fd', FD', hm', G'⟩ := L2.Pd.K23.ok_law (P := (PySem.Challenge.rw_endlessinn_k23_rule_texts).prog) (w := w) (base := base) T'
    have ef := hm'.symm.trans hm
    cases ef
    obtain ⟨_, _, _, _, _, _, _, _, _, _, r1, l1, _⟩ := FD.ex
    obtain ⟨_, _, _, _, _, _, _, _, _, _, r2, l2, _⟩ := FD'.ex
    rw [l1] at l2
    cases l2
    exact G' 
set_option maxHeartbeats 1000000
namespace L2.Pd
open PySem PySem.Spec PyProof.Rows
theorem okDiv_w {j : Int} (h0 : 0 < j) (h1 : j < 2 ^ 400) : okDiv j := ⟨h0, Nat.lt_of_lt_of_le (log2_lt (k := 400) (by omega) (by decide)) (by decide)⟩
theorem gcd_step {x y : Int} (t : Int) : Int.gcd (y - t * x) x = Int.gcd x y := by
  rw [Int.gcd_comm x y, Int.sub_eq_add_neg, ← Int.neg_mul]
  exact Int.gcd_add_mul_right_left ..
def Und (num wide one other least more : Int) : Prop := (∃ j k, least * num = one + j * wide ∧ more * num = other + k * wide) ∧
  ((0 ≤ least ∧ more ≤ 0 ∧ one * (-more) + other * least = wide) ∨ (least ≤ 0 ∧ 0 ≤ more ∧ one * more + other * (-least) = wide))
@[simp] theorem intD_bl {b : Bool} : intD [.bl b] = some (.int (if b = true then 1 else 0), false) := rfl
@[simp] theorem intD_int {i : Int} : intD [.int i] = some (.int i, false) := rfl
def Mm (f s x : Int) : Prop := ∃ n : Int, 0 ≤ n ∧ x = f + s * n
theorem both_iff {f s o p g s' p' D r k : Int} (hs : 0 < s) (hp : 0 < p) (hg : 0 < g) (es : s = g * s') (ep : p = g * p') (eD : o - f = g * D) (er : r * s' = 1 + k * p') (x : Int) :
    (Mm f s x ∧ Mm o p x) ↔ (f ≤ x ∧ o ≤ x ∧ ∃ q, x = f + s * ((D * r) % p') + s * p' * q) := by
  have dm := Int.mul_ediv_add_emod (D * r) p'
  constructor
  · rintro ⟨⟨n, n0, e1⟩, m, m0, e2⟩
    have a1 : 0 ≤ s * n := Int.mul_nonneg (by omega) n0
    have a2 : 0 ≤ p * m := Int.mul_nonneg (by omega) m0
    refine ⟨by omega, by omega, ?_⟩
    have h1 : g * (s' * n) = g * (D + p' * m) := by grind
    have h2 : s' * n = D + p' * m := Int.eq_of_mul_eq_mul_left (by omega) h1
    have h3 : n = D * r + p' * (r * m - k * n) := by grind
    refine ⟨D * r / p' + (r * m - k * n), ?_⟩
    grind
  · rintro ⟨h1, h2, q, e⟩
    refine ⟨⟨D * r % p' + p' * q, ?_, by grind⟩, ⟨D * k - s' * (D * r / p') + s' * q, ?_, by grind⟩⟩
    · have : 0 ≤ s * (D * r % p' + p' * q) := by
        have e3 : s * (D * r % p' + p' * q) = x - f := by grind
        omega
      exact Int.nonneg_of_mul_nonneg_right this hs
    · have : 0 ≤ p * (D * k - s' * (D * r / p') + s' * q) := by
        have e3 : p * (D * k - s' * (D * r / p') + s' * q) = x - o := by grind
        omega
      exact Int.nonneg_of_mul_nonneg_right this hp
/-- the least from a bound on -/
theorem from_iff {l P b x : Int} (hP : 0 < P) (h : l < b + P) :
    (b ≤ x ∧ ∃ q, x = l + P * q) ↔ Mm (if 0 < b - l then l + (b - l + P - 1) / P * P else l) P x := by
  have dm := Int.mul_ediv_add_emod (b - l + P - 1) P
  have m0 : 0 ≤ (b - l + P - 1) % P := Int.emod_nonneg _ (by omega)
  have m1 : (b - l + P - 1) % P < P := Int.emod_lt_of_pos _ hP
  have e0 : (b - l + P - 1) / P * P = P * ((b - l + P - 1) / P) := Int.mul_comm ..
  constructor
  · rintro ⟨h1, q, e⟩
    split
    · refine ⟨q - (b - l + P - 1) / P, ?_, by grind⟩
      have : 0 < P * (q - (b - l + P - 1) / P + 1) := by
        have e3 : P * (q - (b - l + P - 1) / P + 1) = x - l - P * ((b - l + P - 1) / P) + P := by grind
        omega
      have := Int.pos_of_mul_pos_right this hP
      omega
    · refine ⟨q, ?_, e⟩
      have : 0 < P * (q + 1) := by
        have e3 : P * (q + 1) = x - l + P := by grind
        omega
      have := Int.pos_of_mul_pos_right this hP
      omega
  · rintro ⟨n, n0, e⟩
    have a : 0 ≤ P * n := Int.mul_nonneg (by omega) n0
    split at e
    · exact ⟨by omega, n + (b - l + P - 1) / P, by grind⟩
    · exact ⟨by omega, n, e⟩
theorem mm0 {f x : Int} : Mm f 0 x ↔ x = f := by
  constructor
  · rintro ⟨n, _, e⟩; simpa using e
  · rintro rfl; exact ⟨0, by decide, by simp⟩
theorem mm_iff {f s x : Int} (hs : 0 < s) : Mm f s x ↔ f ≤ x ∧ (x - f) % s = 0 := by
  constructor
  · rintro ⟨n, n0, rfl⟩
    have := Int.mul_nonneg (show 0 ≤ s by omega) n0
    refine ⟨by omega, ?_⟩
    rw [show f + s * n - f = s * n by omega]; exact Int.mul_emod_right _ _
  · rintro ⟨h1, h2⟩
    refine ⟨(x - f) / s, Int.ediv_nonneg (by omega) (by omega), ?_⟩
    have := Int.mul_ediv_add_emod (x - f) s
    omega
/-- what meeting_of tells -/
def Met (f s o p : Int) (t : DB) : Prop := (t = (.non, false) ∧ ∀ x, ¬ (Mm f s x ∧ Mm o p x)) ∨ ∃ l P, t = (.tup [.int l, .int P], false) ∧ 0 ≤ P ∧ ∀ x, Mm f s x ∧ Mm o p x ↔ Mm l P x
@[simp] theorem eqD_bl {a b : Bool} : eqD [.bl a, .bl b] = some (.bl (decide (a = b)), false) := by
  unfold eqD
  simp only [D.py]
  rw [if_pos (by rfl)]
  rfl
/-- a row of a laying -/
structure RowI where
  f : Int
  s : Int
  o : Int
  p : Int
def RowI.d (r : RowI) : D := .tup [.int r.f, .int r.s, .int r.o, .int r.p]
def RowI.ok (r : RowI) : Prop := 0 ≤ r.f ∧ r.f < 2 ^ 400 ∧ 0 ≤ r.s ∧ r.s ≤ 240 ∧ 0 ≤ r.o ∧ r.o < 2 ^ 400 ∧ 0 ≤ r.p ∧ r.p < 2 ^ 200 ∧ (r.s = 0 ↔ r.p = 0)
@[simp] theorem atI_2 {α : Type} {x y z : α} {r : List α} : atI (x :: y :: z :: r) 2 = some z := by
  rw [atI_nn (by decide) (by simp; omega)]; rfl
@[simp] theorem atI_3 {α : Type} {x y z w : α} {r : List α} : atI (x :: y :: z :: w :: r) 3 = some w := by
  rw [atI_nn (by decide) (by simp; omega)]; rfl
/-- no two rows meet; the strides divide 240 -/
def Lay (rows : List RowI) : Prop := rows.length ≤ 60 ∧ ((∀ r ∈ rows, r.ok) ∧ ∃ M : Int, 0 < M ∧ M ≤ 240 ∧ ∀ r ∈ rows, max 1 r.s ∣ M) ∧
  rows.Pairwise fun a b => (∀ x, ¬ (Mm a.f a.s x ∧ Mm b.f b.s x)) ∧ ∀ x, ¬ (Mm a.o a.p x ∧ Mm b.o b.p x)
theorem met_none {f s o p : Int} {t : DB} (h : Met f s o p t) (d : ∀ x, ¬ (Mm f s x ∧ Mm o p x)) : t = (.non, false) := by
  rcases h with ⟨e, _⟩ | ⟨l, P, _, P0, h⟩
  · exact e
  · exact absurd ((h l).mpr ⟨0, by decide, by simp⟩) (d l)
/-- how many rooms below x a row takes -/
def cntR (x : Int) (r : RowI) : Int := if r.o < x then (if r.p = 0 then 1 else (x - r.o + r.p - 1) / r.p) else 0
/-- a purse -/
def PS (n : Nat) (st : List (List Int)) : Prop := ∃ s d c : Int, st[n]? = some [s, d, c] ∧ 0 ≤ s ∧ s < 1000000021 ∧ 0 ≤ d
theorem PS.set {n : Nat} {st : List (List Int)} {s d c : Int} (h : n < st.length) (h0 : 0 ≤ s) (h1 : s < 1000000021) (h2 : 0 ≤ d) : PS n (st.set n [s, d, c]) :=
  ⟨s, d, c, by rw [List.getElem?_set_self h], h0, h1, h2⟩
theorem get_set {α : Type} {st : List α} {n : Nat} {x y : α} (h : st[n]? = some x) : (st.set n y)[n]? = some y := by
  rw [List.getElem?_set_self (List.getElem?_eq_some_iff.mp h).1]
def IntIn (m : Int) (t : DB) : Prop := ∃ v : Int, t = (.int v, false) ∧ 0 ≤ v ∧ v < m
theorem ints_mem {ns : List Int} {d : D} (h : d ∈ ns.map D.int) : ∃ v, d = .int v := by
  obtain ⟨v, _, rfl⟩ := List.mem_map.mp h
  exact ⟨v, rfl⟩
theorem mod_rg (x : Int) : 0 ≤ x % 1000000021 ∧ x % 1000000021 < 1000000021 := ⟨Int.emod_nonneg _ (by decide), Int.emod_lt_of_pos _ (by decide)⟩
theorem pop_ex {ds : List D} {j : Int} {P : Nat → D → Prop} (h0 : 0 ≤ j) (h1 : j < ds.length) (h2 : j < 2 ^ 62) (h : ∀ d, d ∈ ds → ds[j.toNat]? = some d → P j.toNat d) : small62 j = true ∧ ∃ k, ixN ds.length j = some k ∧ ∃ d, ds[k]? = some d ∧ P k d := by
  have hj : j.toNat < ds.length := by omega
  exact ⟨small62_of (by omega) h2, j.toNat, ixN_nn h0 h1, ds[j.toNat], List.getElem?_eq_getElem hj, h _ (List.getElem_mem hj) (List.getElem?_eq_getElem hj)⟩
/-- a part of a rule -/
theorem at_mem {xs : List D} {v : Int} {P : D → Prop} (h0 : 0 ≤ v) (h1 : v < xs.length) (h : ∀ d ∈ xs, P d) : ∃ d, atI xs v = some d ∧ P d := by
  obtain ⟨d, e, hd⟩ := atI_get h0 h1
  exact ⟨d, e, h d hd⟩
def Shp (k : Nat) (d : D) : Prop := ∃ p, d.py = some p ∧ p.canLay0 = true ∧ p.depth ≤ k
theorem Shp.mono {k k' : Nat} {d : D} (h : Shp k d) (h1 : k ≤ k') : Shp k' d := by
  obtain ⟨p, a, b, c⟩ := h
  exact ⟨p, a, b, Nat.le_trans c h1⟩
theorem shp_non {k : Nat} : Shp k .non := ⟨.none, rfl, rfl, Nat.zero_le _⟩
theorem shp_bl {b : Bool} {k : Nat} : Shp k (.bl b) := ⟨.bool b, rfl, rfl, Nat.zero_le _⟩
theorem shp_int {i : Int} {k : Nat} : Shp k (.int i) := ⟨.int i, rfl, rfl, Nat.zero_le _⟩
theorem shpL {k : Nat} : ∀ (ds : List D), (∀ d ∈ ds, Shp k d) → ∃ ps, D.pyL ds = some ps ∧ PyData.canLayAll0 ps = true ∧ PyData.depthAll ps ≤ k
  | [], _ => ⟨[], rfl, rfl, Nat.zero_le _⟩
  | d :: ds, h => by
    obtain ⟨p, a1, a2, a3⟩ := h d List.mem_cons_self
    obtain ⟨ps, b1, b2, b3⟩ := shpL ds fun d hd => h d (List.mem_cons_of_mem _ hd)
    exact ⟨p :: ps, by simp [D.pyL, a1, b1], by simp [PyData.canLayAll0, a2, b2], by simp only [PyData.depthAll]; omega⟩
theorem shp_tup {k : Nat} {ds : List D} (h : ∀ d ∈ ds, Shp k d) : Shp (k + 1) (.tup ds) := by
  obtain ⟨ps, b1, b2, b3⟩ := shpL ds h
  exact ⟨.tuple ps, by simp [D.py, b1], by simpa [PyData.canLay0] using b2, by simp only [PyData.depth]; omega⟩
theorem shp_lst {k : Nat} {ds : List D} (h : ∀ d ∈ ds, Shp k d) : Shp (k + 1) (.lst ds) := by
  obtain ⟨ps, b1, b2, b3⟩ := shpL ds h
  exact ⟨.list ps, by simp [D.py, b1], by simpa [PyData.canLay0] using b2, by simp only [PyData.depth]; omega⟩
def D.q (d e : D) : Bool := match d.py, e.py with
  | some p, some q => PyData.eqv p q
  | _, _ => false
theorem Shp.shaped {k : Nat} {d : D} (h : Shp k d) (hk : k ≤ 64) : ∃ p, d.py = some p ∧ pyShaped p = true := by
  obtain ⟨p, a, b, c⟩ := h
  refine ⟨p, a, ?_⟩
  show (p.canLay0 && decide (p.depth ≤ 64)) = true
  simp [b]; omega
theorem eqD_q {d e : D} (h : Shp 64 d) (h2 : Shp 64 e) : eqD [d, e] = some (.bl (D.q d e), false) := by
  obtain ⟨p, a, b⟩ := h.shaped (Nat.le_refl _)
  obtain ⟨p2, a2, b2⟩ := h2.shaped (Nat.le_refl _)
  unfold eqD D.q
  split
  · rename_i x y heq
    cases heq
    simp only [D.py, Option.some.injEq] at a a2
    subst a a2
    simp only [D.py, PyData.eqv]
    congr
  · rename_i x y _ heq
    cases heq
    simp [a, a2, b, b2]
  · rename_i h3
    exact absurd rfl (h3 d e)
theorem neD_q {d e : D} (h : Shp 64 d) (h2 : Shp 64 e) : neD [d, e] = some (.bl (!D.q d e), false) := by
  obtain ⟨p, a, b⟩ := h.shaped (Nat.le_refl _)
  obtain ⟨p2, a2, b2⟩ := h2.shaped (Nat.le_refl _)
  unfold neD D.q
  split
  · rename_i x y heq
    cases heq
    simp only [D.py, Option.some.injEq] at a a2
    subst a a2
    simp only [D.py, PyData.eqv]
    congr
  · rename_i x y _ heq
    cases heq
    simp [a, a2, b, b2]
  · rename_i h3
    exact absurd rfl (h3 d e)
theorem q_self {k : Nat} {d : D} (h : Shp k d) : D.q d d = true := by
  obtain ⟨p, a, b, c⟩ := h
  unfold D.q
  simp only [a]
  exact PySem.SeqAt.eqv_refl p b
@[simp] theorem q_int {i j : Int} : D.q (.int i) (.int j) = decide (i = j) := rfl
@[simp] theorem q_nn : D.q .non .non = true := rfl
@[simp] theorem q_ni {i : Int} : D.q .non (.int i) = false := rfl
@[simp] theorem q_in {i : Int} : D.q (.int i) .non = false := rfl
@[simp] theorem q_tnil : D.q (.tup []) (.tup []) = true := rfl
@[simp] theorem q_lnil : D.q (.lst []) (.lst []) = true := rfl
theorem pyL_cons {d : D} {ds : List D} : D.pyL (d :: ds) = match D.py d, D.pyL ds with
    | some p, some ps => some (p :: ps)
    | _, _ => none := rfl
@[simp] theorem q_tcons {x y : D} {xs ys : List D} : D.q (.tup (x :: xs)) (.tup (y :: ys)) = (D.q x y && D.q (.tup xs) (.tup ys)) := by
  simp only [D.q, D.py, pyL_cons]
  cases D.py x <;> cases D.py y <;> cases D.pyL xs <;> cases D.pyL ys <;> simp [PyData.eqv, PyData.eqvAll]
@[simp] theorem q_lcons {x y : D} {xs ys : List D} : D.q (.lst (x :: xs)) (.lst (y :: ys)) = (D.q x y && D.q (.lst xs) (.lst ys)) := by
  simp only [D.q, D.py, pyL_cons]
  cases D.py x <;> cases D.py y <;> cases D.pyL xs <;> cases D.pyL ys <;> simp [PyData.eqv, PyData.eqvAll]
@[simp] theorem q_tnc {x : D} {xs : List D} : D.q (.tup []) (.tup (x :: xs)) = false := by
  simp only [D.q, D.py, pyL_cons]
  cases D.py x <;> cases D.pyL xs <;> simp [PyData.eqv, PyData.eqvAll, D.pyL]
@[simp] theorem q_tcn {x : D} {xs : List D} : D.q (.tup (x :: xs)) (.tup []) = false := by
  simp only [D.q, D.py, pyL_cons]
  cases D.py x <;> cases D.pyL xs <;> simp [PyData.eqv, PyData.eqvAll, D.pyL]
@[simp] theorem q_lnc {x : D} {xs : List D} : D.q (.lst []) (.lst (x :: xs)) = false := by
  simp only [D.q, D.py, pyL_cons]
  cases D.py x <;> cases D.pyL xs <;> simp [PyData.eqv, PyData.eqvAll, D.pyL]
@[simp] theorem q_lcn {x : D} {xs : List D} : D.q (.lst (x :: xs)) (.lst []) = false := by
  simp only [D.q, D.py, pyL_cons]
  cases D.py x <;> cases D.pyL xs <;> simp [PyData.eqv, PyData.eqvAll, D.pyL]
theorem q_lnil_iff {xs : List D} : D.q (.lst xs) (.lst []) = xs.isEmpty := by cases xs <;> simp
def cD (c : Int × Int) : D := .tup [.int c.1, .int c.2]
def Md (c : Int × Int) (x : Int) : Prop := c.2 ∣ x - c.1
def Clss (cs : List (Int × Int)) : Prop := (∀ c ∈ cs, 0 ≤ c.1 ∧ c.1 < c.2 ∧ c.2 ∣ 24) ∧ cs.Pairwise fun a b => ∀ x, ¬ (Md a x ∧ Md b x)
theorem Clss.sub {cs ds : List (Int × Int)} (h : Clss cs) (s : ds.Sublist cs) : Clss ds := ⟨fun c hc => h.1 c (s.subset hc), h.2.sublist s⟩
theorem cls_shp (c : Int × Int) : Shp 1 (cD c) := shp_tup fun d hd => by
  simp at hd
  rcases hd with rfl | rfl <;> exact shp_int
theorem clss_split {l1 l2 : List (Int × Int)} {a b : Int} {cut : Int} (h : Clss (l1 ++ (a, b) :: l2)) (hc : 2 ≤ cut) (hd : b * cut ∣ 24) :
    Clss (l1 ++ l2 ++ (List.range cut.toNat).map fun (k : Nat) => (a + b * (k : Int), b * cut)) := by
  obtain ⟨h1, h2⟩ := h
  obtain ⟨p1, p2, p3⟩ := h1 (a, b) (by simp)
  simp only at p1 p2 p3
  have b0 : 0 < b := by omega
  have low : ∀ k : Int, ∀ x, Md (a + b * k, b * cut) x → Md (a, b) x := by
    rintro k x ⟨m, e⟩
    refine ⟨k + cut * m, ?_⟩
    simp only at e ⊢
    grind
  rw [List.pairwise_append] at h2
  obtain ⟨q1, q2, q3⟩ := h2
  rw [List.pairwise_cons] at q2
  refine ⟨?_, ?_⟩
  · intro c hc
    simp only [List.mem_append, List.mem_map, List.mem_range] at hc
    rcases hc with (hc | hc) | ⟨k, hk, rfl⟩
    · exact h1 c (by simp [hc])
    · exact h1 c (by simp [hc])
    · have e1 : b * ((k : Int) + 1) ≤ b * cut := Int.mul_le_mul_of_nonneg_left (by omega) (by omega)
      have e2 : b * ((k : Int) + 1) = b * k + b := by rw [Int.mul_add, Int.mul_one]
      have e3 : 0 ≤ b * (k : Int) := Int.mul_nonneg (by omega) (by omega)
      exact ⟨by simp only; omega, by simp only; omega, hd⟩
  · rw [List.pairwise_append, List.pairwise_append]
    refine ⟨⟨q1, q2.2, fun c hc d hd => q3 c hc d (List.mem_cons_of_mem _ hd)⟩, ?_, ?_⟩
    · rw [List.pairwise_map]
      refine List.Pairwise.imp_of_mem ?_ List.pairwise_lt_range
      intro k l hk hl hkl x
      rintro ⟨⟨m, e⟩, n, e'⟩
      simp only at e e'
      simp only [List.mem_range] at hk hl
      have e1 : b * ((l : Int) - k) = b * (cut * (m - n)) := by grind
      have e2 : (l : Int) - k = cut * (m - n) := Int.eq_of_mul_eq_mul_left (by omega) e1
      have e3 : 0 < m - n := Int.pos_of_mul_pos_right (a := cut) (by omega) (by omega)
      have e4 : cut * 1 ≤ cut * (m - n) := Int.mul_le_mul_of_nonneg_left (by omega) (by omega)
      omega
    · intro c hc d hd x hx
      simp only [List.mem_map, List.mem_range] at hd
      obtain ⟨k, hk, rfl⟩ := hd
      have hx2 := low _ x hx.2
      rcases List.mem_append.mp hc with hc | hc
      · exact q3 c hc _ List.mem_cons_self x ⟨hx.1, hx2⟩
      · exact q2.1 c hc x ⟨hx2, hx.1⟩
theorem at_split {α : Type} {xs : List α} {i : Nat} {x : α} (h : xs[i]? = some x) : xs = xs.take i ++ x :: xs.drop (i + 1) := by
  obtain ⟨hi, rfl⟩ := List.getElem?_eq_some_iff.mp h
  rw [List.getElem_cons_drop, List.take_append_drop]
theorem at_map {α : Type} {xs : List α} {f : α → D} {v : Int} {P : D → Prop} (h0 : 0 ≤ v) (h1 : v < xs.length) (h : ∀ x, xs[v.toNat]? = some x → P (f x)) : ∃ d, atI (xs.map f) v = some d ∧ P d := by
  have hj : v.toNat < xs.length := by omega
  refine ⟨f xs[v.toNat], ?_, h _ (List.getElem?_eq_getElem hj)⟩
  rw [atI_nn h0 (by simpa using h1)]
  simp [hj]
theorem erase_map {α β : Type} {f : α → β} {xs : List α} {k : Nat} : (xs.map f).eraseIdx k = (xs.eraseIdx k).map f := by
  rw [List.eraseIdx_eq_take_drop_succ, List.eraseIdx_eq_take_drop_succ, List.map_append, List.map_take, List.map_drop]
/-- pop at j of a list of such -/
def PopM {α : Type} (xs : List α) (j : Int) (P : Nat → α → Prop) : Prop := small62 j = true ∧ ∃ k x, ixN xs.length j = some k ∧ xs[k]? = some x ∧ P k x
theorem PopM.of {α : Type} {xs : List α} {j : Int} {P : Nat → α → Prop} (h0 : 0 ≤ j) (h1 : j < xs.length) (h2 : j < 2 ^ 62) (h : ∀ x, xs[j.toNat]? = some x → P j.toNat x) : PopM xs j P := by
  have hj : j.toNat < xs.length := by omega
  exact ⟨small62_of (by omega) h2, j.toNat, xs[j.toNat], ixN_nn h0 h1, List.getElem?_eq_getElem hj, h _ (List.getElem?_eq_getElem hj)⟩
@[simp high] theorem popQ_map {α : Type} {xs : List α} {f : α → D} {s : S} {i : Nat} {Q : DB → S → Prop} {j : Int} : PopQ s i Q (.int j) (some (some (.lst (xs.map f), true))) = PopM xs j fun k x => Q (f x, false) { s with env := s.env.set i (some (.lst ((xs.eraseIdx k).map f), true)) } := by
  rw [popQ_t]
  unfold PopM
  rw [List.length_map]
  congr 1
  refine propext ⟨?_, ?_⟩
  · rintro ⟨k, d, h1, h2, h3⟩
    rw [List.getElem?_map] at h2
    obtain ⟨x, hx, rfl⟩ := Option.map_eq_some_iff.mp h2
    rw [erase_map] at h3
    exact ⟨k, x, h1, hx, h3⟩
  · rintro ⟨k, x, h1, h2, h3⟩
    exact ⟨k, f x, h1, by rw [List.getElem?_map, h2]; rfl, by rw [erase_map]; exact h3⟩
end L2.Pd
set_option maxHeartbeats 1000000
namespace L2.Pd
open PySem PySem.Spec PyProof.Rows
def RowI.b (r : RowI) : Prop := 0 ≤ r.f ∧ r.f < 2 ^ 400 ∧ 0 ≤ r.s ∧ r.s < 2 ^ 200 ∧ 0 ≤ r.o ∧ r.o < 2 ^ 400 ∧ 0 ≤ r.p ∧ r.p < 2 ^ 200 ∧ (r.s = 0 ↔ r.p = 0)
def RowI.t (r : RowI) : RowI := ⟨r.o, r.p, r.f, r.s⟩
theorem RowI.ok.b {r : RowI} (h : r.ok) : r.b := by
  obtain ⟨f0, f1, s0, s1, o0, o1, p0, p1, hz⟩ := h
  exact ⟨f0, f1, s0, by omega, o0, o1, p0, p1, hz⟩
theorem RowI.b.t {r : RowI} (h : r.b) : r.t.b := by
  obtain ⟨f0, f1, s0, s1, o0, o1, p0, p1, hz⟩ := h
  exact ⟨o0, o1, p0, p1, f0, f1, s0, s1, hz.symm⟩
def RowI.led (r : RowI) (n : Int) : Option Int := if r.s = 0 then (if n = r.f then some r.o else none) else if r.f ≤ n ∧ (n - r.f) % r.s = 0 then some (r.o + r.p * ((n - r.f) / r.s)) else none
def ledI (rows : List RowI) (n : Int) : Option Int := rows.findSome? (·.led n)
def optD : Option Int → D
  | none => .non
  | some i => .int i
@[simp] theorem optD_n : optD none = .non := rfl
@[simp] theorem optD_s {i : Int} : optD (some i) = .int i := rfl
theorem led_isSome {r : RowI} {n : Int} (h : 0 ≤ r.s) : (r.led n).isSome = true ↔ Mm r.f r.s n := by
  unfold RowI.led
  by_cases c : r.s = 0
  · rw [if_pos c, c, mm0]
    split <;> simp_all
  · rw [if_neg c, mm_iff (by omega)]
    split <;> simp_all
theorem led_none {r : RowI} {n : Int} (h : 0 ≤ r.s) : r.led n = none ↔ ¬ Mm r.f r.s n := by
  rw [← led_isSome h]
  cases r.led n <;> simp
theorem led_back {r : RowI} {n m : Int} (h : r.b) (e : r.led n = some m) : r.t.led m = some n := by
  obtain ⟨f0, f1, s0, s1, o0, o1, p0, p1, hz⟩ := h
  unfold RowI.led at e
  show (if r.p = 0 then (if m = r.o then some r.f else none) else if r.o ≤ m ∧ (m - r.o) % r.p = 0 then some (r.f + r.s * ((m - r.o) / r.p)) else none) = some n
  by_cases c : r.s = 0
  · rw [if_pos c] at e
    rw [if_pos (hz.mp c)]
    split at e
    · rename_i c2
      cases e
      rw [if_pos rfl, c2]
    · cases e
  · have hp : ¬ r.p = 0 := fun z => c (hz.mpr z)
    rw [if_neg c] at e
    rw [if_neg hp]
    split at e
    · rename_i c2
      cases e
      have q0 : 0 ≤ (n - r.f) / r.s := Int.ediv_nonneg (by omega) (by omega)
      have q1 := Int.mul_nonneg p0 q0
      have e1 : r.o + r.p * ((n - r.f) / r.s) - r.o = r.p * ((n - r.f) / r.s) := by omega
      rw [e1, if_pos ⟨by omega, Int.mul_emod_right _ _⟩, Int.mul_ediv_cancel_left _ hp]
      have := Int.mul_ediv_add_emod (n - r.f) r.s
      congr 1
      omega
    · cases e
theorem led_mm {r : RowI} {n m : Int} (h : r.b) (e : r.led n = some m) : Mm r.f r.s n ∧ Mm r.o r.p m :=
  ⟨(led_isSome h.2.2.1).mp (by rw [e]; rfl), (led_isSome (r := r.t) h.t.2.2.1).mp (by rw [led_back h e]; rfl)⟩
theorem led_nn {r : RowI} {n m : Int} (h : r.b) (e : r.led n = some m) : 0 ≤ m := by
  obtain ⟨k, k0, rfl⟩ := (led_mm h e).2
  have := Int.mul_nonneg h.2.2.2.2.2.2.1 k0
  have := h.2.2.2.2.1
  omega
theorem led_lt {r : RowI} {n m : Int} (h : r.b) (e : r.led n = some m) (hn : n < 2 ^ 400) : m < 2 ^ 601 := by
  obtain ⟨f0, f1, s0, s1, o0, o1, p0, p1, hz⟩ := h
  unfold RowI.led at e
  split at e
  · split at e
    · cases e; omega
    · cases e
  · split at e
    · rename_i c c2
      cases e
      have q0 : 0 ≤ (n - r.f) / r.s := Int.ediv_nonneg (by omega) (by omega)
      have q1 : (n - r.f) / r.s ≤ n - r.f := Int.ediv_le_self _ (by omega)
      have := Int.mul_le_mul (show r.p ≤ 2 ^ 200 by omega) (show (n - r.f) / r.s ≤ 2 ^ 400 by omega) q0 (by decide)
      have e2 : ((2 : Int) ^ 200) * (2 ^ 400) = 2 ^ 600 := by decide +kernel
      have e3 : (2 : Int) ^ 600 + 2 ^ 400 < 2 ^ 601 := by decide +kernel
      omega
    · cases e
theorem find_uniq {α β : Type} {f : α → Option β} {x : α} {y : β} : ∀ {xs : List α}, x ∈ xs → f x = some y → (xs.Pairwise fun a b => f a = none ∨ f b = none) → xs.findSome? f = some y
  | [], h, _, _ => nomatch h
  | z :: xs, h, e, hp => by
    rw [List.pairwise_cons] at hp
    rw [List.findSome?_cons]
    rcases List.mem_cons.mp h with rfl | h
    · rw [e]
    · rcases hp.1 x h with q | q
      · rw [q]; exact find_uniq h e hp.2
      · rw [e] at q; cases q
theorem find_mem {α β : Type} {f : α → Option β} {y : β} {xs : List α} (h : xs.findSome? f = some y) : ∃ x ∈ xs, f x = some y := List.exists_of_findSome?_eq_some h
/-- rooms of rows don't meet -/
def Apart (rows : List RowI) : Prop := (∀ r ∈ rows, r.b) ∧ rows.Pairwise fun a b => (∀ x, ¬ (Mm a.f a.s x ∧ Mm b.f b.s x)) ∧ ∀ x, ¬ (Mm a.o a.p x ∧ Mm b.o b.p x)
theorem Lay.apart {rows : List RowI} (h : Lay rows) : Apart rows := ⟨fun r hr => (h.2.1.1 r hr).b, h.2.2⟩
theorem Apart.t {rows : List RowI} (h : Apart rows) : Apart (rows.map RowI.t) := by
  refine ⟨fun r hr => ?_, ?_⟩
  · obtain ⟨q, hq, rfl⟩ := List.mem_map.mp hr
    exact (h.1 q hq).t
  · rw [List.pairwise_map]
    exact h.2.imp fun ⟨a, b⟩ => ⟨b, a⟩
theorem RowI.tt (r : RowI) : r.t.t = r := rfl
theorem map_tt (rows : List RowI) : (rows.map RowI.t).map RowI.t = rows := by simp [Function.comp_def, RowI.tt]
theorem ledI_of {rows : List RowI} (h : Apart rows) {r : RowI} (hr : r ∈ rows) {n m : Int} (e : r.led n = some m) : ledI rows n = some m := by
  refine find_uniq hr e ?_
  refine List.Pairwise.imp_of_mem ?_ h.2
  intro a b ha hb hab
  by_cases c : a.led n = none
  · exact .inl c
  · refine .inr ((led_none (h.1 b hb).2.2.1).mpr fun z => hab.1 n ⟨?_, z⟩)
    refine Classical.byContradiction fun q => c ((led_none (h.1 a ha).2.2.1).mpr q)
theorem ledI_back {rows : List RowI} (h : Apart rows) {n m : Int} (e : ledI rows n = some m) : ledI (rows.map RowI.t) m = some n := by
  obtain ⟨r, hr, e⟩ := find_mem e
  exact ledI_of h.t (List.mem_map_of_mem hr) (led_back (h.1 r hr) e)
theorem ledI_some {rows : List RowI} (h : ∀ r ∈ rows, r.b) {n : Int} : (ledI rows n).isSome = true ↔ ∃ r ∈ rows, Mm r.f r.s n := by
  unfold ledI
  rw [List.isSome_findSome?, List.any_eq_true]
  constructor
  · rintro ⟨r, hr, e⟩; exact ⟨r, hr, (led_isSome (h r hr).2.2.1).mp e⟩
  · rintro ⟨r, hr, e⟩; exact ⟨r, hr, (led_isSome (h r hr).2.2.1).mpr e⟩
theorem ledI_nn {rows : List RowI} (h : ∀ r ∈ rows, r.b) {n m : Int} (e : ledI rows n = some m) : 0 ≤ m := by
  obtain ⟨r, hr, e⟩ := find_mem e
  exact led_nn (h r hr) e
open Classical in
noncomputable def indR (x : Int) (r : RowI) : Int := if Mm r.o r.p x then 1 else 0
theorem cnt_step {r : RowI} (h : r.b) (x : Int) : cntR (x + 1) r = cntR x r + indR x r := by
  obtain ⟨f0, f1, s0, s1, o0, o1, p0, p1, hz⟩ := h
  unfold cntR indR
  by_cases c : r.p = 0
  · simp only [c, if_true, mm0]
    split <;> split <;> split <;> omega
  · have hp : 0 < r.p := by omega
    simp only [c, if_false, mm_iff hp]
    have d := Int.mul_ediv_add_emod (x - r.o) r.p
    have d0 := Int.emod_nonneg (x - r.o) c
    have d1 := Int.emod_lt_of_pos (x - r.o) hp
    have e1 : (x + 1 - r.o + r.p - 1) / r.p = (x - r.o) / r.p + 1 := by
      rw [show x + 1 - r.o + r.p - 1 = (x - r.o) + r.p by omega, Int.add_ediv_of_dvd_right (Int.dvd_refl _), Int.ediv_self c]
    have e2 : (x - r.o + r.p - 1) / r.p = if (x - r.o) % r.p = 0 then (x - r.o) / r.p else (x - r.o) / r.p + 1 := by
      split
      · rename_i z
        have : x - r.o + r.p - 1 = (r.p - 1) + r.p * ((x - r.o) / r.p) := by omega
        rw [this, Int.add_mul_ediv_left _ _ c, Int.ediv_eq_zero_of_lt (by omega) (by omega)]; omega
      · rename_i z
        have : x - r.o + r.p - 1 = ((x - r.o) % r.p - 1) + r.p * ((x - r.o) / r.p + 1) := by
          rw [Int.mul_add, Int.mul_one]; omega
        rw [this, Int.add_mul_ediv_left _ _ c, Int.ediv_eq_zero_of_lt (by omega) (by omega)]; omega
    by_cases c1 : r.o < x
    · rw [if_pos (by omega), if_pos c1, e1, e2]
      by_cases c2 : (x - r.o) % r.p = 0
      · rw [if_pos c2, if_pos ⟨by omega, c2⟩]
      · rw [if_neg c2, if_neg fun z => c2 z.2]; omega
    · by_cases c3 : r.o = x
      · have z : (x - r.o) = 0 := by omega
        rw [if_pos (by omega), if_neg c1, e1, z]
        simp [c3]
      · rw [if_neg (by omega), if_neg c1, if_neg (by omega)]; omega
theorem ind_sum {x : Int} : ∀ {rows : List RowI}, Apart rows → (rows.map (indR x)).sum = if (ledI (rows.map RowI.t) x).isSome = true then 1 else 0
  | [], _ => rfl
  | r :: rows, h => by
    have h' : Apart rows := ⟨fun q hq => h.1 q (List.mem_cons_of_mem _ hq), (List.pairwise_cons.mp h.2).2⟩
    have ih := ind_sum (x := x) h'
    have hb := h.1 r List.mem_cons_self
    rw [List.map_cons, List.sum_cons, ih]
    by_cases c : Mm r.o r.p x
    · have n1 : ¬ (ledI (rows.map RowI.t) x).isSome = true := by
        rw [ledI_some h'.t.1]
        rintro ⟨q, hq, z⟩
        obtain ⟨q', hq', rfl⟩ := List.mem_map.mp hq
        exact ((List.pairwise_cons.mp h.2).1 q' hq').2 x ⟨c, z⟩
      have n2 : (ledI ((r :: rows).map RowI.t) x).isSome = true := (ledI_some h.t.1).mpr ⟨r.t, by simp, c⟩
      rw [if_neg n1, if_pos n2]
      unfold indR
      rw [if_pos c]; rfl
    · have e : ledI ((r :: rows).map RowI.t) x = ledI (rows.map RowI.t) x := by
        unfold ledI
        rw [List.map_cons, List.findSome?_cons, (led_none (r := r.t) hb.t.2.2.1).mpr c]
      rw [e]
      unfold indR
      rw [if_neg c]; omega
def cntS (rows : List RowI) (x : Int) : Int := (rows.map (cntR x)).sum
theorem cntS_step {rows : List RowI} (h : Apart rows) (x : Int) : cntS rows (x + 1) = cntS rows x + if (ledI (rows.map RowI.t) x).isSome = true then 1 else 0 := by
  rw [← ind_sum h]
  unfold cntS
  have hb := h.1
  clear h
  induction rows with
  | nil => rfl
  | cons r rows ih =>
    simp only [List.map_cons, List.sum_cons]
    rw [ih fun q hq => hb q (List.mem_cons_of_mem _ hq), cnt_step (hb r List.mem_cons_self)]
    omega
theorem cntS_0 {rows : List RowI} (h : ∀ r ∈ rows, r.b) : cntS rows 0 = 0 := by
  unfold cntS
  induction rows with
  | nil => rfl
  | cons r rows ih =>
    rw [List.map_cons, List.sum_cons, ih fun q hq => h q (List.mem_cons_of_mem _ hq)]
    have := (h r List.mem_cons_self).2.2.2.2.1
    unfold cntR
    rw [if_neg (by omega)]; rfl
theorem sum_perm {as bs : List Int} (h : as.Perm bs) : as.sum = bs.sum := by
  induction h with
  | nil => rfl
  | cons _ _ ih => simp [ih]
  | swap a b l => simp only [List.sum_cons]; omega
  | trans _ _ h1 h2 => exact h1.trans h2
theorem cntS_rev (rows : List RowI) (x : Int) : cntS rows.reverse x = cntS rows x := sum_perm ((List.reverse_perm rows).map _)
/-- the same, as the laws count it -/
theorem cnt_law {r : RowI} {x : Int} (h : r.b) : cntR x r = if r.o < x then (if 0 < r.p then (x - 1 - r.o) / max 1 r.p + 1 else 1) else 0 := by
  obtain ⟨f0, f1, s0, s1, o0, o1, p0, p1, hz⟩ := h
  unfold cntR
  by_cases c : r.p = 0
  · simp [c]
  · have hp : 0 < r.p := by omega
    simp only [c, if_false, hp, if_true]
    rw [Int.max_eq_right (by omega)]
    rw [show x - r.o + r.p - 1 = (x - 1 - r.o) + r.p by omega, Int.add_ediv_of_dvd_right (Int.dvd_refl _), Int.ediv_self c]
theorem cnt_far {r : RowI} (h : r.b) {x w t : Int} (hx : r.o < x) (hw : max 1 r.p ∣ w) (w0 : 0 < w) (t0 : 0 ≤ t) : cntR (x + w * t) r = cntR x r + (if 0 < r.p then w / r.p else 0) * t := by
  obtain ⟨f0, f1, s0, s1, o0, o1, p0, p1, hz⟩ := h
  have wt := Int.mul_nonneg (show 0 ≤ w by omega) t0
  unfold cntR
  rw [if_pos hx, if_pos (by omega)]
  by_cases c : r.p = 0
  · simp [c]
  · have hp : 0 < r.p := by omega
    rw [Int.max_eq_right (by omega)] at hw
    obtain ⟨k, rfl⟩ := hw
    simp only [c, if_false, hp, if_true]
    rw [Int.mul_ediv_cancel_left _ c, show x + r.p * k * t - r.o + r.p - 1 = (x - r.o + r.p - 1) + r.p * (k * t) by grind, Int.add_mul_ediv_left _ _ c]
def moreS (rows : List RowI) (w : Int) : Int := (rows.map fun r => if 0 < r.p then w / r.p else 0).sum
theorem cntS_far {rows : List RowI} (h : ∀ r ∈ rows, r.b) {x w t : Int} (hx : ∀ r ∈ rows, r.o < x) (hw : ∀ r ∈ rows, max 1 r.p ∣ w) (w0 : 0 < w) (t0 : 0 ≤ t) : cntS rows (x + w * t) = cntS rows x + moreS rows w * t := by
  unfold cntS moreS
  induction rows with
  | nil => simp
  | cons r rows ih =>
    simp only [List.map_cons, List.sum_cons]
    rw [ih (fun q hq => h q (List.mem_cons_of_mem _ hq)) (fun q hq => hx q (List.mem_cons_of_mem _ hq)) (fun q hq => hw q (List.mem_cons_of_mem _ hq)), cnt_far (h r List.mem_cons_self) (hx r List.mem_cons_self) (hw r List.mem_cons_self) w0 t0]
    grind
def turnI (f s n : Int) : Option Int := if s = 0 then (if n = f then some 0 else none) else if f ≤ n ∧ (n - f) % s = 0 then some ((n - f) / s) else none
theorem led_turn (r : RowI) (n : Int) : r.led n = (turnI r.f r.s n).map fun t => r.o + r.p * t := by
  unfold RowI.led turnI
  split
  · split <;> simp
  · split <;> simp
theorem turn_bd {f s n t : Int} (s0 : 0 ≤ s) (h : turnI f s n = some t) : 0 ≤ t ∧ (t = 0 ∨ t ≤ n - f) := by
  unfold turnI at h
  split at h
  · split at h
    · cases h; omega
    · cases h
  · split at h
    · cases h
      exact ⟨Int.ediv_nonneg (by omega) (by omega), .inr (Int.ediv_le_self _ (by omega))⟩
    · cases h
theorem find_map {α β γ : Type} {f : α → Option β} {g : β → γ} {xs : List α} : xs.findSome? (fun r => (f r).map g) = (xs.findSome? f).map g := by
  induction xs with
  | nil => rfl
  | cons x xs ih =>
    rw [List.findSome?_cons, List.findSome?_cons]
    cases f x with
    | none => exact ih
    | some y => rfl
theorem fold_sum {α : Type} {f : α → Int} : ∀ {xs : List α} {a : Int}, xs.foldl (fun a r => a + f r) a = a + (xs.map f).sum
  | [], a => by simp
  | x :: xs, a => by
    rw [List.foldl_cons, fold_sum, List.map_cons, List.sum_cons]; omega
end L2.Pd
set_option maxHeartbeats 1000000
namespace L2.Pd
open PySem PySem.Spec PyProof.Rows
def Dj (a b : RowI) : Prop := (∀ x, ¬ (Mm a.f a.s x ∧ Mm b.f b.s x)) ∧ ∀ x, ¬ (Mm a.o a.p x ∧ Mm b.o b.p x)
theorem Dj.symm {a b : RowI} (h : Dj a b) : Dj b a := ⟨fun x z => h.1 x ⟨z.2, z.1⟩, fun x z => h.2 x ⟨z.2, z.1⟩⟩
def RowG (r : RowI) : Prop := r.ok ∧ max 1 r.s ∣ 24 ∧ max 1 r.p ∣ 24 * 10 ^ 20 ∧ r.o < 2 ^ 110 ∧ r.f < 96
def Laid (rows : List RowI) : Prop := rows.length ≤ 18 ∧ (∀ r ∈ rows, RowG r) ∧ rows.Pairwise Dj
theorem Laid.lay {rows : List RowI} (h : Laid rows) : Lay rows :=
  ⟨by have := h.1; omega, ⟨fun r hr => (h.2.1 r hr).1, 24, by decide, by decide, fun r hr => (h.2.1 r hr).2.1⟩, h.2.2⟩
theorem Laid.perm {rows qs : List RowI} (h : Laid rows) (p : qs.Perm rows) : Laid qs :=
  ⟨by rw [p.length_eq]; exact h.1, fun r hr => h.2.1 r (p.mem_iff.mp hr), (p.pairwise_iff Dj.symm).mpr h.2.2⟩
structure LI (ns : List (Int × Int)) (i : Nat) (rs : List (Int × Int)) (rows : List RowI) : Prop where
  cl : Clss rs
  len : rows.length ≤ 2 * i
  ok : ∀ r ∈ rows, RowG r
  ap : rows.Pairwise Dj
  nn : ∀ r ∈ rows, ∀ c ∈ ns.drop i, ∀ x, ¬ (Mm r.f r.s x ∧ Md c x)
  rr : ∀ r ∈ rows, ∀ c ∈ rs, ∀ x, ¬ (Mm r.o r.p x ∧ Md c x)
theorem drop_sub {α : Type} {xs : List α} {i : Nat} {x : α} (h : x ∈ xs.drop (i + 1)) : x ∈ xs.drop i := by
  rw [← List.drop_drop] at h
  exact List.mem_of_mem_drop h
theorem LI.skip {ns rs : List (Int × Int)} {i : Nat} {rows : List RowI} (h : LI ns i rs rows) : LI ns (i + 1) rs rows :=
  ⟨h.cl, by have := h.len; omega, h.ok, h.ap, fun r hr c hc => h.nn r hr c (drop_sub hc), h.rr⟩
theorem LI.add {ns rs : List (Int × Int)} {i j : Nat} {rows new : List RowI} {c e : Int × Int} (h : LI ns i rs rows) (hns : Clss ns) (hc : ns[i]? = some c) (he : rs[j]? = some e) (hl : new.length ≤ 2)
    (ho : ∀ r ∈ new, RowG r) (hp : new.Pairwise Dj) (hn : ∀ r ∈ new, ∀ x, Mm r.f r.s x → Md c x) (hr : ∀ r ∈ new, ∀ x, Mm r.o r.p x → Md e x) : LI ns (i + 1) (rs.eraseIdx j) (rows ++ new) := by
  have cd : ns.drop i = c :: ns.drop (i + 1) := by
    obtain ⟨hi, rfl⟩ := List.getElem?_eq_some_iff.mp hc
    rw [List.getElem_cons_drop]
  have cm : c ∈ ns.drop i := by rw [cd]; exact List.mem_cons_self
  have em : e ∈ rs := List.mem_of_getElem? he
  have dn : ∀ d ∈ ns.drop (i + 1), ∀ x, ¬ (Md c x ∧ Md d x) := by
    have := hns.2.sublist (List.drop_sublist i ns)
    rw [cd, List.pairwise_cons] at this
    exact this.1
  have dr : ∀ d ∈ rs.eraseIdx j, ∀ x, ¬ (Md e x ∧ Md d x) := by
    have := h.cl.2
    rw [at_split he, List.pairwise_append, List.pairwise_cons] at this
    intro d hd x z
    rw [List.eraseIdx_eq_take_drop_succ] at hd
    rcases List.mem_append.mp hd with hd | hd
    · exact this.2.2 d hd e List.mem_cons_self x ⟨z.2, z.1⟩
    · exact this.2.1.1 d hd x z
  refine ⟨h.cl.sub (List.eraseIdx_sublist ..), by rw [List.length_append]; have := h.len; omega, ?_, ?_, ?_, ?_⟩
  · intro r hr
    rcases List.mem_append.mp hr with hr | hr
    · exact h.ok r hr
    · exact ho r hr
  · rw [List.pairwise_append]
    exact ⟨h.ap, hp, fun a ha b hb => ⟨fun x z => h.nn a ha c cm x ⟨z.1, hn b hb x z.2⟩, fun x z => h.rr a ha e em x ⟨z.1, hr b hb x z.2⟩⟩⟩
  · intro r hr' d hd x z
    rcases List.mem_append.mp hr' with hr' | hr'
    · exact h.nn r hr' d (drop_sub hd) x z
    · exact dn d hd x ⟨hn r hr' x z.1, z.2⟩
  · intro r hr' d hd x z
    rcases List.mem_append.mp hr' with hr' | hr'
    · exact h.rr r hr' d (List.mem_of_mem_eraseIdx hd) x z
    · exact dr d hd x ⟨hr r hr' x z.1, z.2⟩
theorem LI.laid {ns rs : List (Int × Int)} {rows : List RowI} (h : LI ns ns.length rs rows) (hn : ns.length ≤ 9) : Laid rows :=
  ⟨by have := h.len; omega, h.ok, h.ap⟩
/-- the rows of two classes -/
theorem mk_rows {rest step spot stride late high lift wide k : Int} (hc : 0 ≤ rest ∧ rest < step ∧ step ∣ 24) (he : 0 ≤ spot ∧ spot < stride ∧ stride ∣ 24) (l0 : 0 ≤ late) (l1 : late < 3) (h0 : 0 ≤ high) (h1 : high < 3) (t0 : 0 ≤ lift) (t1 : lift ≤ 10 ^ 30)
    (hw : wide = 1 ∨ wide = 10 ^ 20) :
    let a : RowI := ⟨rest + step * late, step, spot + stride * (high + lift), stride * wide⟩
    let b : RowI := ⟨rest + step * (late - 1), 0, spot + stride * (high - 1 - k), 0⟩
    RowG a ∧ (∀ x, Mm a.f a.s x → Md (rest, step) x) ∧ (∀ x, Mm a.o a.p x → Md (spot, stride) x) ∧
    (0 < late → 0 < high → 0 ≤ k → k < high → RowG b ∧ Dj a b ∧ (∀ x, Mm b.f b.s x → Md (rest, step) x) ∧ (∀ x, Mm b.o b.p x → Md (spot, stride) x)) := by
  obtain ⟨a0, a1, a2⟩ := hc
  obtain ⟨b0, b1, b2⟩ := he
  have a3 := Int.le_of_dvd (by decide) a2
  have b3 := Int.le_of_dvd (by decide) b2
  have w0 : 1 ≤ wide ∧ wide ≤ 10 ^ 20 := by rcases hw with rfl | rfl <;> decide
  have m1 : 0 ≤ step * late := Int.mul_nonneg (by omega) l0
  have m2 : step * late ≤ 24 * 3 := Int.mul_le_mul (by omega) (by omega) l0 (by decide)
  have m3 : 0 ≤ stride * (high + lift) := Int.mul_nonneg (by omega) (by omega)
  have m4 : stride * (high + lift) ≤ 24 * (3 + 10 ^ 30) := Int.mul_le_mul (by omega) (by omega) (by omega) (by decide)
  have m5 : 0 < stride * wide := Int.mul_pos (by omega) (by omega)
  have m6 : stride * wide ≤ 24 * 10 ^ 20 := Int.mul_le_mul (by omega) (by omega) (by omega) (by decide)
  have wd : wide ∣ 10 ^ 20 := by rcases hw with rfl | rfl <;> decide
  have dv : stride * wide ∣ 24 * 10 ^ 20 := Int.mul_dvd_mul b2 wd
  refine ⟨⟨⟨by show 0 ≤ rest + step * late; omega, by show rest + step * late < 2 ^ 400; omega, by show 0 ≤ step; omega, by show step ≤ 240; omega, by show 0 ≤ spot + stride * (high + lift); omega, by show spot + stride * (high + lift) < 2 ^ 400; omega, by show 0 ≤ stride * wide; omega, by show stride * wide < 2 ^ 200; omega, by show step = 0 ↔ stride * wide = 0; omega⟩, ?_, ?_, by show spot + stride * (high + lift) < 2 ^ 110; omega, by show rest + step * late < 96; omega⟩, ?_, ?_, ?_⟩
  · show max 1 step ∣ 24
    rw [Int.max_eq_right (by omega)]; exact a2
  · show max 1 (stride * wide) ∣ _
    rw [Int.max_eq_right (by omega)]; exact dv
  · rintro x ⟨n, _, rfl⟩
    exact ⟨late + n, by simp only; grind⟩
  · rintro x ⟨n, _, rfl⟩
    exact ⟨high + lift + wide * n, by simp only; grind⟩
  · intro l2 h2 k0 k1
    have n1 : 0 ≤ step * (late - 1) := Int.mul_nonneg (by omega) (by omega)
    have n2 : step * (late - 1) = step * late - step := by rw [Int.mul_sub, Int.mul_one]
    have n3 : 0 ≤ stride * (high - 1 - k) := Int.mul_nonneg (by omega) (by omega)
    have n4 : stride * (high - 1 - k) ≤ 24 * 3 := Int.mul_le_mul (by omega) (by omega) (by omega) (by decide)
    have n5 : stride * (high + lift) = stride * (high - 1 - k) + stride * (1 + k + lift) := by grind
    have n6 : 0 < stride * (1 + k + lift) := Int.mul_pos (by omega) (by omega)
    refine ⟨⟨⟨by show 0 ≤ rest + step * (late - 1); omega, by show rest + step * (late - 1) < 2 ^ 400; omega, Int.le_refl 0, by show (0 : Int) ≤ 240; decide, by show 0 ≤ spot + stride * (high - 1 - k); omega, by show spot + stride * (high - 1 - k) < 2 ^ 400; omega, Int.le_refl 0, by show (0 : Int) < 2 ^ 200; decide, Iff.rfl⟩, by show max 1 0 ∣ (24 : Int); decide, by show max 1 0 ∣ (24 * 10 ^ 20 : Int); decide, by show spot + stride * (high - 1 - k) < 2 ^ 110; omega, by show rest + step * (late - 1) < 96; omega⟩, ⟨?_, ?_⟩, ?_, ?_⟩
    · rintro x ⟨⟨n, n0, e⟩, z⟩
      have e2 : x = rest + step * (late - 1) := mm0.mp z
      have := Int.mul_nonneg (show 0 ≤ step by omega) n0
      simp only at e
      omega
    · rintro x ⟨⟨n, n0, e⟩, z⟩
      have e2 : x = spot + stride * (high - 1 - k) := mm0.mp z
      have := Int.mul_nonneg (show 0 ≤ stride * wide by omega) n0
      simp only at e
      omega
    · intro x z
      have e2 : x = rest + step * (late - 1) := mm0.mp z
      exact ⟨late - 1, by simp only; omega⟩
    · intro x z
      have e2 : x = spot + stride * (high - 1 - k) := mm0.mp z
      exact ⟨high - 1 - k, by simp only; omega⟩
theorem ne_nil {cs : List (Int × Int)} : neD [.lst (cs.map cD), .lst []] = some (.bl (!cs.isEmpty), false) := by
  rw [neD_q (Shp.mono (shp_lst (k := 1) fun d hd => by obtain ⟨c, _, rfl⟩ := List.mem_map.mp hd; exact cls_shp c) (by decide)) (Shp.mono (shp_lst (k := 0) fun d hd => by simp at hd) (by decide)), q_lnil_iff]
  cases cs <;> rfl
@[simp] theorem isNon_optD {o : Option Int} : isNonD (optD o) = o.isNone := by cases o <;> rfl
theorem optD_shp {o : Option Int} : Shp 64 (optD o) := by
  cases o with
  | none => exact shp_non
  | some i => exact shp_int
theorem q_optD {a b : Option Int} : D.q (optD a) (optD b) = decide (a = b) := by
  cases a <;> cases b <;> simp
@[simp] theorem ne_optD {a b : Option Int} : neD [optD a, optD b] = some (.bl (!decide (a = b)), false) := by
  rw [neD_q optD_shp optD_shp, q_optD]
@[simp] theorem eq_optD {a b : Option Int} : eqD [optD a, optD b] = some (.bl (decide (a = b)), false) := by
  rw [eqD_q optD_shp optD_shp, q_optD]
theorem lcm_dv {w m : Int} (h0 : 0 < w) (h1 : 0 < m) : w * m / (Int.gcd w m : Int) = Int.lcm w m := by
  have gpos : 0 < w.gcd m := Int.gcd_pos_of_ne_zero_left _ (by omega)
  have ab : 0 < w * m := Int.mul_pos h0 h1
  have gl := Int.gcd_mul_lcm w m
  have e2 : w * m = (w.gcd m : Int) * (Int.lcm w m : Int) := by
    have : ((w.gcd m * w.lcm m : Nat) : Int) = ((w * m).natAbs : Int) := by rw [gl, Int.natAbs_mul]
    rw [Int.natCast_mul] at this
    omega
  rw [e2]
  exact Int.mul_ediv_cancel_left _ (by omega)
theorem max_ex {ns : List Int} (h : ns ≠ []) : ∃ m, ns.max? = some m ∧ m ∈ ns ∧ ∀ n ∈ ns, n ≤ m := by
  cases e : ns.max? with
  | none => exact absurd (List.max?_eq_none_iff.mp e) h
  | some m =>
    have := List.max?_eq_some_iff.mp e
    exact ⟨m, rfl, this.1, this.2⟩
theorem min_ex {ns : List Int} (h : ns ≠ []) : ∃ m, ns.min? = some m ∧ m ∈ ns ∧ ∀ n ∈ ns, m ≤ n := by
  cases e : ns.min? with
  | none => exact absurd (List.min?_eq_none_iff.mp e) h
  | some m =>
    have := List.min?_eq_some_iff.mp e
    exact ⟨m, rfl, this.1, this.2⟩
theorem sum_ints {α : Type} (xs : List α) (f : α → Int) : sumD [.lst (xs.map fun x => .int (f x))] = some (.int (xs.map f).sum, false) := by
  simp [sumD, ints_map]
theorem filt_sum {α : Type} (p : α → Bool) (f : α → Int) : ∀ xs : List α, ((xs.filter p).map f).sum = (xs.map fun x => if p x = true then f x else 0).sum
  | [] => rfl
  | x :: xs => by
    by_cases c : p x = true <;> simp [c, filt_sum p f xs]
/-- no owned list -/
def NoOwn (x : Option DB) : Prop := x = none ∨ ∃ d, x = some (d, false)
theorem NoOwn.free {x : Option DB} {e : Ev} {i : Nat} (h : NoOwn x) (e1 : e[i]? = some x) : freeE e [i] = true := by
  unfold freeE
  simp only [List.all_cons, List.all_nil, Bool.and_true, e1]
  rcases h with rfl | ⟨d, rfl⟩ <;> rfl
theorem Lay.rev {rows : List RowI} (h : Lay rows) : Lay rows.reverse :=
  ⟨by rw [List.length_reverse]; exact h.1, ⟨fun r hr => h.2.1.1 r (List.mem_reverse.mp hr), h.2.1.2.imp fun M hM => ⟨hM.1, hM.2.1, fun r hr => hM.2.2 r (List.mem_reverse.mp hr)⟩⟩, ((List.reverse_perm rows).pairwise_iff Dj.symm).mpr h.2.2⟩
theorem Lay.take {rows : List RowI} (h : Lay rows) (k : Nat) : Lay (rows.take k) :=
  ⟨by have := h.1; simp; omega, ⟨fun r hr => h.2.1.1 r (List.mem_of_mem_take hr), h.2.1.2.imp fun M hM => ⟨hM.1, hM.2.1, fun r hr => hM.2.2 r (List.mem_of_mem_take hr)⟩⟩, h.2.2.sublist (List.take_sublist k rows)⟩
@[simp] theorem isi_nI : isiD [.non, .ty "int"] = some (.bl false, false) := rfl
@[simp] theorem isi_nT : isiD [.non, .ty "tuple"] = some (.bl false, false) := rfl
@[simp] theorem eq_nilnil : eqD [.lst [], .lst []] = some (.bl true, false) := by
  rw [eqD_q ((shp_lst (k := 0) (by simp)).mono (by decide)) ((shp_lst (k := 0) (by simp)).mono (by decide))]; rfl
theorem rowG_shw {rows : List RowI} (h : Laid rows) : Shw 40000 2 (.tup (rows.map RowI.d)) := by
  refine (shw_tup (n := 2000) (k := 1) (m := 18) (fun p hm => ?_) (by simpa using h.1)).mono (by decide) (by decide)
  obtain ⟨r, hr, rfl⟩ := List.mem_map.mp hm
  obtain ⟨f0, f1, s0, s1, o0, o1, p0, p1, hz⟩ := (h.2.1 r hr).1
  refine (shw_tup (n := 402) (k := 0) (m := 4) (fun p hm => ?_) (Nat.le_refl _)).mono (by decide) (by decide)
  simp at hm
  rcases hm with rfl | rfl | rfl | rfl <;> exact (shw_int (k := 400) (by omega) (by decide) (by decide)).mono (by decide) (by decide)
/-- numbers D more -/
def RowI.up (D : Int) (r : RowI) : RowI := ⟨r.f + D, r.s, r.o, r.p⟩
theorem led_up {D : Int} {r : RowI} {n : Int} : (r.up D).led (n + D) = r.led n := by
  unfold RowI.led RowI.up
  simp only
  rw [show n + D - (r.f + D) = n - r.f by omega]
  simp
theorem ledI_up {D : Int} {rows : List RowI} {n : Int} : ledI (rows.map (RowI.up D)) (n + D) = ledI rows n := by
  unfold ledI
  induction rows with
  | nil => rfl
  | cons r rows ih => rw [List.map_cons, List.findSome?_cons, List.findSome?_cons, led_up, ih]
theorem who_up {D : Int} {rows : List RowI} {n : Int} : ledI ((rows.map (RowI.up D)).map RowI.t) n = (ledI (rows.map RowI.t) n).map (· + D) := by
  unfold ledI
  induction rows with
  | nil => rfl
  | cons r rows ih =>
    have e : (r.up D).t.led n = (r.t.led n).map (· + D) := by
      unfold RowI.led RowI.up RowI.t
      simp only
      split
      · split <;> simp
      · split
        · simp; omega
        · simp
    rw [List.map_cons, List.map_cons, List.map_cons, List.findSome?_cons, List.findSome?_cons, e, ih]
    cases r.t.led n <;> rfl
theorem Laid.up {rows : List RowI} (h : Laid rows) {D : Int} (h0 : 0 ≤ D) (h1 : D < 2 ^ 300) : Lay (rows.map (RowI.up D)) := by
  refine ⟨by have := h.1; simp; omega, ⟨fun r hr => ?_, 24, by decide, by decide, fun r hr => ?_⟩, ?_⟩
  · obtain ⟨q, hq, rfl⟩ := List.mem_map.mp hr
    obtain ⟨⟨f0, f1, s0, s1, o0, o1, p0, p1, hz⟩, g1, _, _, g2⟩ := h.2.1 q hq
    exact ⟨by show 0 ≤ q.f + D; omega, by show q.f + D < 2 ^ 400; omega, s0, s1, o0, o1, p0, p1, hz⟩
  · obtain ⟨q, hq, rfl⟩ := List.mem_map.mp hr
    exact (h.2.1 q hq).2.1
  · rw [List.pairwise_map]
    refine h.2.2.imp fun {a b} hab => ⟨fun x z => hab.1 (x - D) ?_, hab.2⟩
    obtain ⟨⟨n, n0, e1⟩, m, m0, e2⟩ := z
    simp only [RowI.up] at e1 e2
    exact ⟨⟨n, n0, by omega⟩, m, m0, by omega⟩
@[simp] theorem addD_tup {xs ys : List D} : addD [.tup xs, .tup ys] = if xs.length + ys.length ≤ sizeLine then some (.tup (xs ++ ys), false) else none := rfl
theorem lay_nil : Lay [] := ⟨by decide, ⟨by simp, 1, by decide, by decide, by simp⟩, .nil⟩
end L2.Pd
set_option maxHeartbeats 1000000
namespace L2.Pd
open PySem PySem.Spec PyProof.Rows
theorem nodup_len : ∀ (n : Nat) (l : List Nat), l.Nodup → (∀ x ∈ l, x < n) → l.length ≤ n
  | 0, [], _, _ => Nat.le_refl _
  | 0, x :: l, _, h => absurd (h x List.mem_cons_self) (by omega)
  | n + 1, l, hn, h => by
    have h1 := nodup_len n (l.erase n) (hn.erase n) fun x hx => by
      have := (hn.mem_erase_iff).mp hx
      have := h x this.2
      omega
    have := @List.length_erase Nat _ _ n l
    split at this <;> omega
/-- the parts' second numbers -/
structure Bd (bs : List Int) : Prop where
  l1 : 1 ≤ bs.length
  l2 : bs.length ≤ 12
  rg : ∀ b ∈ bs, 0 ≤ b ∧ b < 2 ^ 350
  nd : bs.Pairwise fun (a b : Int) => ¬ a % (bs.length : Int) = b % (bs.length : Int)
def prt (n : Int) (b : Int) : D := .tup [.int n, .int b]
def ruD (bs : List Int) : D := .tup (bs.map (prt bs.length))
def bA (bs : List Int) (i : Nat) : Int := bs.getD i 0
def wB (bs : List Int) (i : Nat) : Int := bA bs i - i
def nx (bs : List Int) (i : Nat) : Nat := (bA bs i % bs.length).toNat
def orb (bs : List Int) (i : Nat) : Nat → Nat
  | 0 => i
  | k + 1 => nx bs (orb bs i k)
def walk (bs : List Int) (i : Nat) : Nat → Int
  | 0 => 0
  | t + 1 => walk bs i t + wB bs (orb bs i t)
section
variable {bs : List Int} {i j k : Nat}
theorem bA_get (h : i < bs.length) : bs[i]? = some (bA bs i) := by
  unfold bA; rw [List.getD_eq_getElem?_getD, List.getElem?_eq_getElem h]; rfl
theorem Bd.at_ (h : Bd bs) (hi : i < bs.length) : 0 ≤ bA bs i ∧ bA bs i < 2 ^ 350 := h.rg _ (List.mem_of_getElem? (bA_get hi))
theorem nx_int (h : 1 ≤ bs.length) : (nx bs i : Int) = bA bs i % bs.length := by
  have := Int.emod_nonneg (bA bs i) (show (bs.length : Int) ≠ 0 by omega)
  unfold nx; omega
theorem nx_lt (h : 1 ≤ bs.length) : nx bs i < bs.length := by
  have := nx_int (i := i) h
  have := Int.emod_lt_of_pos (bA bs i) (show 0 < (bs.length : Int) by omega)
  omega
theorem Bd.inj (h : Bd bs) (hi : i < bs.length) (hj : j < bs.length) (e : nx bs i = nx bs j) : i = j := by
  have e1 : bA bs i % bs.length = bA bs j % bs.length := by rw [← nx_int h.l1, ← nx_int h.l1, e]
  have q := List.pairwise_iff_getElem.mp h.nd
  have gi : bs[i] = bA bs i := by have := bA_get hi; rw [List.getElem?_eq_getElem hi] at this; exact Option.some.inj this
  have gj : bs[j] = bA bs j := by have := bA_get hj; rw [List.getElem?_eq_getElem hj] at this; exact Option.some.inj this
  rcases Nat.lt_trichotomy i j with c | c | c
  · exact absurd (by rw [gi, gj]; exact e1) (q i j hi hj c)
  · exact c
  · exact absurd (by rw [gi, gj]; exact e1.symm) (q j i hj hi c)
theorem orb_lt (h : 1 ≤ bs.length) (hi : i < bs.length) : orb bs i k < bs.length := by
  cases k with
  | zero => exact hi
  | succ k => exact nx_lt h
theorem Bd.orb_inj (h : Bd bs) (hi : i < bs.length) (hj : j < bs.length) : ∀ {k : Nat}, orb bs i k = orb bs j k → i = j
  | 0, e => e
  | k + 1, e => Bd.orb_inj h hi hj (h.inj (orb_lt h.l1 hi) (orb_lt h.l1 hj) e)
theorem orb_add : ∀ (a b : Nat), orb bs i (a + b) = orb bs (orb bs i a) b
  | a, 0 => rfl
  | a, b + 1 => by show nx bs (orb bs i (a + b)) = nx bs (orb bs (orb bs i a) b); rw [orb_add a b]
/-- L is the first time that i is back -/
def Per (bs : List Int) (i L : Nat) : Prop := 1 ≤ L ∧ orb bs i L = i ∧ ∀ k, 1 ≤ k → k < L → orb bs i k ≠ i
/-- as long as i isn't back, all rests are new -/
theorem Bd.fresh (h : Bd bs) (hi : i < bs.length) {m : Nat} (hm : ∀ k, 1 ≤ k → k < m → orb bs i k ≠ i) : m ≤ bs.length := by
  have e := nodup_len bs.length ((List.range m).map (orb bs i)) (by
    rw [List.nodup_iff_pairwise_ne, List.pairwise_map]
    refine List.Pairwise.imp_of_mem ?_ List.pairwise_lt_range
    intro a b ha hb hab e
    have hb := List.mem_range.mp hb
    have e2 : orb bs i b = orb bs (orb bs i (b - a)) a := by rw [← orb_add]; congr 1; omega
    rw [e2] at e
    have := h.orb_inj hi (orb_lt h.l1 hi) e
    exact hm (b - a) (by omega) (by omega) this.symm) (fun x hx => by
    obtain ⟨k, _, rfl⟩ := List.mem_map.mp hx
    exact orb_lt h.l1 hi)
  simpa using e
theorem Per.le {L : Nat} (p : Per bs i L) (h : Bd bs) (hi : i < bs.length) : L ≤ bs.length := h.fresh hi p.2.2
theorem Per.mul {L : Nat} (p : Per bs i L) : ∀ m : Nat, orb bs i (m * L) = i
  | 0 => by rw [Nat.zero_mul]; rfl
  | m + 1 => by rw [Nat.succ_mul, orb_add, Per.mul p m, p.2.1]
theorem Per.orb {L : Nat} (p : Per bs i L) (t : Nat) : orb bs i t = orb bs i (t % L) := by
  conv => lhs; rw [← Nat.div_add_mod t L, Nat.mul_comm, orb_add, p.mul]
theorem Per.dvd {L t : Nat} (p : Per bs i L) (e : L2.Pd.orb bs i t = i) : ∃ m, t = m * L := by
  refine ⟨t / L, ?_⟩
  have := Nat.div_add_mod t L
  rw [Nat.mul_comm] at this
  rw [p.orb] at e
  have hlt := Nat.mod_lt t (show 0 < L from p.1)
  by_cases c : t % L = 0
  · omega
  · exact absurd e (p.2.2 _ (by omega) hlt)
theorem walk_add : ∀ (a b : Nat), walk bs i (a + b) = walk bs i a + walk bs (orb bs i a) b
  | a, 0 => by show walk bs i a = walk bs i a + 0; omega
  | a, b + 1 => by
    show walk bs i (a + b) + wB bs (orb bs i (a + b)) = walk bs i a + (walk bs (orb bs i a) b + wB bs (orb bs (orb bs i a) b))
    rw [walk_add a b, orb_add]; omega
theorem Per.walk {L : Nat} (p : Per bs i L) : ∀ m : Nat, walk bs i (m * L) = m * walk bs i L
  | 0 => by rw [Nat.zero_mul]; show (0 : Int) = _; simp
  | m + 1 => by
    rw [Nat.succ_mul, walk_add, Per.walk p m, p.mul]
    push_cast
    grind
theorem Per.walk2 {L : Nat} (p : Per bs i L) (t : Nat) : L2.Pd.walk bs i t = (t / L : Nat) * L2.Pd.walk bs i L + L2.Pd.walk bs i (t % L) := by
  conv => lhs; rw [← Nat.div_add_mod t L, Nat.mul_comm L, walk_add, p.walk, p.mul]
/-- where the rest goes tells how far -/
theorem walk_rest (h : 1 ≤ bs.length) (hi : i < bs.length) : ∀ t : Nat, ((i : Int) + walk bs i t) % bs.length = orb bs i t
  | 0 => by show ((i : Int) + 0) % _ = _; rw [Int.add_zero]; exact Int.emod_eq_of_lt (by omega) (by show (i : Int) < bs.length; omega)
  | t + 1 => by
    have ih := walk_rest h hi t
    show ((i : Int) + (walk bs i t + (bA bs (orb bs i t) - (orb bs i t : Nat)))) % bs.length = (nx bs (orb bs i t) : Nat)
    rw [nx_int h, ← ih]
    have := Int.mul_ediv_add_emod ((i : Int) + walk bs i t) bs.length
    have e : (i : Int) + (walk bs i t + (bA bs (orb bs i t) - ((i : Int) + walk bs i t) % bs.length)) = bA bs (orb bs i t) + bs.length * (((i : Int) + walk bs i t) / bs.length) := by omega
    rw [e, Int.add_mul_emod_self_left]
theorem Bd.walk0 (h : Bd bs) (hi : i < bs.length) {L t : Nat} (p : Per bs i L) (e : walk bs i t = 0) : ∃ m, t = m * L := by
  have := walk_rest h.l1 hi t
  rw [e, Int.add_zero, Int.emod_eq_of_lt (by omega) (by omega)] at this
  exact p.dvd (by omega)
theorem wB_bd (h : Bd bs) (hi : i < bs.length) : -12 ≤ wB bs i ∧ wB bs i < 2 ^ 350 := by
  have := h.at_ hi
  have := h.l2
  unfold wB; omega
theorem walk_bd (h : Bd bs) (hi : i < bs.length) : ∀ t : Nat, -12 * (t : Int) ≤ walk bs i t ∧ walk bs i t ≤ 2 ^ 350 * (t : Int)
  | 0 => by simp [walk]
  | t + 1 => by
    have ih := walk_bd h hi t
    have := wB_bd h (orb_lt (k := t) h.l1 hi)
    show -12 * ((t + 1 : Nat) : Int) ≤ walk bs i t + wB bs (orb bs i t) ∧ walk bs i t + wB bs (orb bs i t) ≤ 2 ^ 350 * ((t + 1 : Nat) : Int)
    push_cast
    omega
theorem walk_nn (h : Bd bs) (hi : i < bs.length) : ∀ t : Nat, 0 ≤ (i : Int) + walk bs i t
  | 0 => by show 0 ≤ (i : Int) + 0; omega
  | t + 1 => by
    have ih := walk_nn h hi t
    have r := walk_rest h.l1 hi t
    have b0 := (h.at_ (orb_lt (k := t) h.l1 hi)).1
    show 0 ≤ (i : Int) + (walk bs i t + (bA bs (orb bs i t) - (orb bs i t : Nat)))
    have d := Int.mul_ediv_add_emod ((i : Int) + walk bs i t) bs.length
    have q := Int.ediv_nonneg ih (show 0 ≤ (bs.length : Int) by omega)
    have := Int.mul_nonneg (show 0 ≤ (bs.length : Int) by omega) q
    omega
end
theorem sum_walk (bs : List Int) (i : Nat) : ∀ k : Nat, (((List.range k).map (orb bs i)).map (wB bs)).sum = walk bs i k
  | 0 => rfl
  | k + 1 => by
    rw [List.range_succ, List.map_append, List.map_append, List.sum_append, sum_walk bs i k]
    simp [walk]
/-- the ring of i -/
def ringI (bs : List Int) (i L : Nat) : List Int := (List.range L).map fun k => (orb bs i k : Int)
def Pt (p : D) : Prop := p = .non ∨ ∃ a b : Int, p = .tup [.int a, .int b] ∧ 1 ≤ a ∧ a < 2 ^ 200 ∧ 0 ≤ b ∧ b < 2 ^ 350
def Rl (d : D) : Prop := ∃ ds, d = .tup ds ∧ 1 ≤ ds.length ∧ ds.length ≤ 12 ∧ ∀ p ∈ ds, Pt p
theorem least_ex {P : Nat → Prop} : ∀ k, P k → ∃ m, P m ∧ ∀ j, j < m → ¬ P j := fun k => by
  induction k using Nat.strongRecOn with
  | ind k ih =>
    intro h
    by_cases c : ∃ j, j < k ∧ P j
    · obtain ⟨j, hj, pj⟩ := c
      exact ih j hj pj
    · exact ⟨k, h, fun j hj pj => c ⟨j, hj, pj⟩⟩
theorem Bd.per {bs : List Int} (h : Bd bs) {i : Nat} (hi : i < bs.length) : ∃ L, Per bs i L := by
  have ex : ∃ k, 1 ≤ k ∧ orb bs i k = i := Classical.byContradiction fun z => by
    have := h.fresh hi (m := bs.length + 1) fun k k1 _ e => z ⟨k, k1, e⟩
    omega
  obtain ⟨k, hk⟩ := ex
  obtain ⟨m, hm, hl⟩ := least_ex (P := fun k => 1 ≤ k ∧ orb bs i k = i) k hk
  exact ⟨m, hm.1, hm.2, fun j j1 j2 e => hl j j2 ⟨j1, e⟩⟩
theorem Bd.rl {bs : List Int} (h : Bd bs) : Rl (ruD bs) := by
  refine ⟨_, rfl, by simpa using h.l1, by simpa using h.l2, fun p hp => ?_⟩
  obtain ⟨b, hb, rfl⟩ := List.mem_map.mp hp
  have h1 := h.l1
  have h2 := h.l2
  exact .inr ⟨_, _, rfl, by omega, by omega, (h.rg b hb).1, (h.rg b hb).2⟩
theorem numD_rng {f : Int → D} {bs : List Int} : numD 0 (bs.map f) = (List.range bs.length).map fun (i : Nat) => D.tup [.int (i : Int), f (bA bs i)] := by
  rw [numD_eq]
  refine List.ext_getElem? fun i => ?_
  rw [List.getElem?_mapIdx, List.getElem?_map, List.getElem?_map]
  by_cases c : i < bs.length
  · rw [bA_get c, List.getElem?_range c]; simp
  · rw [List.getElem?_eq_none (by omega), List.getElem?_eq_none (by simpa using c)]; rfl
def waysR (bs : List Int) : List RowI := (List.range bs.length).map fun (i : Nat) => ⟨i, bs.length, bA bs i, bs.length⟩
def RD (r : RowI) : Prop := 0 ≤ r.o ∧ r.o < 2 ^ 400 ∧ 0 ≤ r.p ∧ r.p < 2 ^ 200
theorem Bd.ways {bs : List Int} (h : Bd bs) : (∀ r ∈ waysR bs, RD r) ∧ (waysR bs).Pairwise fun a b => ∀ x, ¬ (Mm a.o a.p x ∧ Mm b.o b.p x) := by
  have h1 := h.l1
  have h2 := h.l2
  unfold waysR
  refine ⟨fun r hr => ?_, ?_⟩
  · obtain ⟨i, hi, rfl⟩ := List.mem_map.mp hr
    have hi := List.mem_range.mp hi
    have := h.at_ hi
    exact ⟨this.1, by show bA bs i < 2 ^ 400; omega, by show (0 : Int) ≤ bs.length; omega, by show (bs.length : Int) < 2 ^ 200; omega⟩
  · rw [List.pairwise_map]
    refine List.Pairwise.imp_of_mem ?_ List.pairwise_lt_range
    intro i j hi hj hij x
    have hi := List.mem_range.mp hi
    have hj := List.mem_range.mp hj
    rintro ⟨⟨n, _, e⟩, m, _, e'⟩
    simp only at e e'
    have e3 : bA bs i % bs.length = bA bs j % bs.length := by
      have q1 : x % bs.length = bA bs i % bs.length := by rw [e, Int.add_mul_emod_self_left]
      have q2 : x % bs.length = bA bs j % bs.length := by rw [e', Int.add_mul_emod_self_left]
      rw [← q1, q2]
    have : i = j := h.inj hi hj (by unfold nx; rw [e3])
    omega
theorem atI_last {α : Type} {xs : List α} {x : α} : atI (xs ++ [x]) (-1) = some x := by
  unfold L2.atI ixN
  rw [if_neg (by decide), if_pos (by rw [List.length_append, List.length_singleton]; omega)]
  have : (-1 + ((xs ++ [x]).length : Int)).toNat = xs.length := by rw [List.length_append, List.length_singleton]; omega
  show (xs ++ [x])[(-1 + ((xs ++ [x]).length : Int)).toNat]? = some x
  rw [this]; simp
def Rng2Q (Q : List D → Prop) : List D → Prop
  | [.int i, .int j] => small62 i = true ∧ small62 j = true ∧ Q (rangeD i (j - i).toNat)
  | _ => False
theorem rgOk_of {n : Int} (h0 : 0 ≤ n) (h1 : n < 16777216) : rgOk 0 n = true := by
  unfold rgOk
  simp only [Bool.and_eq_true, decide_eq_true_eq]
  exact ⟨⟨small62_of (by decide) (by decide), small62_of (by omega) (by omega)⟩, by omega⟩
/-- parts laid, rests left -/
structure BI (n : Int) (ls bs : List Int) : Prop where
  len : (bs.length : Int) + ls.length = n
  nd : (bs.map (· % n) ++ ls).Pairwise (fun a b => ¬ a = b)
  lr : ∀ v ∈ ls, 0 ≤ v ∧ v < n
  br : ∀ b ∈ bs, 0 ≤ b ∧ b < 2 ^ 10
theorem BI.start {n : Int} (h : 0 ≤ n) : BI n ((List.range n.toNat).map fun k : Nat => (k : Int)) [] := by
  refine ⟨by simp; omega, ?_, fun v hv => ?_, by simp⟩
  · rw [List.map_nil, List.nil_append, List.pairwise_map]
    exact List.pairwise_lt_range.imp fun {a b} hab e => by omega
  · simp only [List.mem_map, List.mem_range] at hv
    obtain ⟨k, hk, rfl⟩ := hv
    omega
theorem BI.step {n v w : Int} {ls bs : List Int} {j : Nat} (h : BI n ls bs) (hv : ls[j]? = some v) (w0 : 0 ≤ w) (w1 : w < 3) (n1 : n ≤ 12 := by omega) : BI n (ls.eraseIdx j) (bs ++ [v + n * w]) := by
  have hj := (List.getElem?_eq_some_iff.mp hv).1
  have hl := h.len
  have vr := h.lr v (List.mem_of_getElem? hv)
  refine ⟨?_, ?_, fun u hu => h.lr u (List.mem_of_mem_eraseIdx hu), fun b hb => ?_⟩
  · rw [List.length_append, List.length_singleton, List.length_eraseIdx, if_pos hj]; omega
  · have e : (v + n * w) % n = v := by rw [Int.add_mul_emod_self_left, Int.emod_eq_of_lt vr.1 vr.2]
    rw [List.map_append, List.map_cons, List.map_nil, e, List.append_assoc, List.singleton_append]
    have pe : (bs.map (· % n) ++ v :: ls.eraseIdx j).Perm (bs.map (· % n) ++ ls) := by
      refine List.Perm.append_left _ ?_
      conv => rhs; rw [at_split hv]
      rw [List.eraseIdx_eq_take_drop_succ]
      exact List.perm_middle.symm
    exact (pe.pairwise_iff fun {a b} hab e => hab e.symm).mpr h.nd
  · rcases List.mem_append.mp hb with hb | hb
    · exact h.br b hb
    · rw [List.mem_singleton.mp hb]
      have := Int.mul_nonneg (show 0 ≤ n by omega) w0
      have : n * w ≤ 12 * 3 := Int.mul_le_mul n1 (by omega) w0 (by decide)
      omega
theorem BI.bd {n : Int} {ls bs : List Int} (h : BI n ls bs) (e : (bs.length : Int) = n) (n0 : 1 ≤ n) (n1 : n ≤ 12) : Bd bs := by
  refine ⟨by omega, by omega, fun b hb => by have := h.br b hb; omega, ?_⟩
  have := (List.pairwise_append.mp h.nd).1
  rw [List.pairwise_map] at this
  rw [e]
  exact this
/-- the same rests -/
theorem Bd.like {bs cs : List Int} (h : Bd bs) (hl : cs.length = bs.length) (hr : ∀ b ∈ cs, 0 ≤ b ∧ b < 2 ^ 350) (e : cs.map (· % (bs.length : Int)) = bs.map (· % (bs.length : Int))) : Bd cs := by
  refine ⟨by rw [hl]; exact h.l1, by rw [hl]; exact h.l2, hr, ?_⟩
  have := h.nd
  rw [hl, ← List.pairwise_map (f := (· % (bs.length : Int))) (R := fun a b => ¬ a = b), e, List.pairwise_map]
  exact this
theorem Bd.lift {bs : List Int} (h : Bd bs) {j : Nat} (hj : j < bs.length) {u : Int} (u0 : 0 ≤ u) (u1 : u < 2 ^ 240) (hb : bA bs j < 2 ^ 10) : Bd (bs.take j ++ (bA bs j + bs.length * u) :: bs.drop (j + 1)) := by
  have h2 := h.l2
  refine h.like ?_ (fun b hm => ?_) ?_
  · simp; omega
  · rcases List.mem_append.mp hm with hm | hm
    · exact h.rg b (List.mem_of_mem_take hm)
    · rcases List.mem_cons.mp hm with rfl | hm
      · have := (h.at_ hj).1
        have := Int.mul_nonneg (show 0 ≤ (bs.length : Int) by omega) u0
        have : (bs.length : Int) * u ≤ 12 * 2 ^ 240 := Int.mul_le_mul (by omega) (by omega) u0 (by decide)
        omega
      · exact h.rg b (List.mem_of_mem_drop hm)
  · have e := congrArg (List.map (· % (bs.length : Int))) (at_split (bA_get hj))
    rw [e]
    simp
@[simp] theorem rng2Q_2 {Q : List D → Prop} {i j : Int} : Rng2Q Q [.int i, .int j] = (small62 i = true ∧ small62 j = true ∧ Q (rangeD i (j - i).toNat)) := rfl
@[simp] theorem ok_rng2 {s : S} {Q : List D → S → Prop} {mr : M (List D)} : Ok (rngI2 mr) s Q = Ok mr s fun ds s1 => Rng2Q (fun r => Q r s1) ds := by
  unfold rngI2; rw [ok_bind]; congr; funext ds s1
  rcases ds with _ | ⟨d, _ | ⟨e, _ | ⟨f, r⟩⟩⟩
  · unfold Ok; rfl
  · cases d <;> (unfold Ok; rfl)
  · cases d with
    | int i =>
      cases e with
      | int j =>
        simp only [ok_lift_ite, rng2Q_2, Bool.and_eq_true, and_assoc]
      | _ => unfold Ok; rfl
    | _ => cases e <;> (unfold Ok; rfl)
  · cases d <;> (try (unfold Ok; rfl)) <;> cases e <;> (unfold Ok; rfl)
/-- each to itself, but one -/
theorem Bd.some {n : Nat} {f : Nat → Int} (h1 : 1 ≤ n) (h2 : n ≤ 12) (hf : ∀ i, i < n → f i = 0 ∨ f i = n) : Bd ((List.range n).map fun i : Nat => (i : Int) + f i) := by
  refine ⟨by simpa using h1, by simpa using h2, fun b hb => ?_, ?_⟩
  · obtain ⟨i, hi, rfl⟩ := List.mem_map.mp hb
    have hi := List.mem_range.mp hi
    rcases hf i hi with e | e <;> rw [e] <;> omega
  · rw [List.pairwise_map]
    refine List.Pairwise.imp_of_mem ?_ List.pairwise_lt_range
    intro i j hi hj hij
    have hi := List.mem_range.mp hi
    have hj := List.mem_range.mp hj
    simp only [List.length_map, List.length_range]
    have e : ∀ k, k < n → ((k : Int) + f k) % n = k := fun k hk => by
      rcases hf k hk with e | e <;> rw [e]
      · rw [Int.add_zero]; exact Int.emod_eq_of_lt (by omega) (by omega)
      · rw [Int.add_emod_right]; exact Int.emod_eq_of_lt (by omega) (by omega)
    rw [e i hi, e j hj]
    omega
@[simp] theorem ne_nn : neD [.non, .non] = some (.bl false, false) := by
  rw [neD_q shp_non shp_non]; rfl
@[simp] theorem eq_nn : eqD [.non, .non] = some (.bl true, false) := by
  rw [eqD_q shp_non shp_non]; rfl
end L2.Pd
set_option maxHeartbeats 1000000
namespace L2.Pd
open PySem PySem.Spec PyProof.Rows
/-- no part beyond B -/
def BB (B : Int) (bs : List Int) : Prop := ∀ b ∈ bs, b ≤ B
def tms (bs : List Int) (t : Nat) : List Int := (List.range bs.length).map fun i : Nat => (i : Int) + walk bs i t
section
variable {bs : List Int} {i t : Nat}
@[simp] theorem tms_len : (tms bs t).length = bs.length := by simp [tms]
theorem tms_at (h : i < bs.length) : bA (tms bs t) i = i + walk bs i t := by
  have := bA_get (bs := tms bs t) (i := i) (by simpa using h)
  unfold tms at this
  rw [List.getElem?_map, List.getElem?_range h] at this
  exact (Option.some.inj this).symm
theorem tms_w (h : i < bs.length) : wB (tms bs t) i = walk bs i t := by
  unfold wB; rw [tms_at h]; omega
theorem tms_nx (hb : 1 ≤ bs.length) (h : i < bs.length) : nx (tms bs t) i = orb bs i t := by
  have e := nx_int (bs := tms bs t) (i := i) (by simpa using hb)
  rw [tms_at h, tms_len, walk_rest hb h] at e
  omega
theorem walk_le (h : Bd bs) (hi : i < bs.length) {B : Int} (hB : BB B bs) : ∀ t : Nat, walk bs i t ≤ B * (t : Int)
  | 0 => by simp [walk]
  | t + 1 => by
    have ih := walk_le h hi hB t
    have := hB _ (List.mem_of_getElem? (bA_get (orb_lt (k := t) h.l1 hi)))
    show walk bs i t + (bA bs (orb bs i t) - (orb bs i t : Nat)) ≤ B * ((t + 1 : Nat) : Int)
    have e : B * ((t + 1 : Nat) : Int) = B * (t : Int) + B := by push_cast; rw [Int.mul_add, Int.mul_one]
    omega
theorem BB.pos (h : Bd bs) {B : Int} (hB : BB B bs) : 0 ≤ B := by
  have h0 : 0 < bs.length := h.l1
  have := hB _ (List.mem_of_getElem? (bA_get h0))
  have := (h.at_ h0).1
  omega
theorem tms_bb (h : Bd bs) {B : Int} (hB : BB B bs) : BB (12 + B * (t : Int)) (tms bs t) := fun b hb => by
  obtain ⟨i, hi, rfl⟩ := List.mem_map.mp hb
  have hi := List.mem_range.mp hi
  have := walk_le h hi hB t
  have := h.l2
  omega
theorem tms_bd (h : Bd bs) {B : Int} (hB : BB B bs) (hs : 12 + B * (t : Int) < 2 ^ 350) : Bd (tms bs t) := by
  refine ⟨by simpa using h.l1, by simpa using h.l2, fun b hb => ⟨?_, ?_⟩, ?_⟩
  · obtain ⟨i, hi, rfl⟩ := List.mem_map.mp hb
    exact walk_nn h (List.mem_range.mp hi) t
  · have := tms_bb h hB b hb; omega
  · rw [tms_len]
    unfold tms
    rw [List.pairwise_map]
    refine List.Pairwise.imp_of_mem ?_ List.pairwise_lt_range
    intro i j hi hj hij e
    have hi := List.mem_range.mp hi
    have hj := List.mem_range.mp hj
    rw [walk_rest h.l1 hi, walk_rest h.l1 hj] at e
    have := h.orb_inj hi hj (k := t) (by omega)
    omega
theorem tms_orb (hb : 1 ≤ bs.length) (h : i < bs.length) : ∀ k : Nat, orb (tms bs t) i k = orb bs i (t * k)
  | 0 => rfl
  | k + 1 => by
    show nx (tms bs t) (orb (tms bs t) i k) = _
    rw [tms_orb hb h k, tms_nx hb (orb_lt hb h), Nat.mul_succ, orb_add]
theorem tms_walk (hb : 1 ≤ bs.length) (h : i < bs.length) : ∀ k : Nat, walk (tms bs t) i k = walk bs i (t * k)
  | 0 => rfl
  | k + 1 => by
    show walk (tms bs t) i k + wB (tms bs t) (orb (tms bs t) i k) = _
    rw [tms_walk hb h k, tms_orb hb h, tms_w (orb_lt hb h), Nat.mul_succ, walk_add]
theorem tms_tms (hb : 1 ≤ bs.length) {k : Nat} : tms (tms bs t) k = tms bs (t * k) := by
  unfold tms
  rw [List.length_map, List.length_range]
  refine List.map_congr_left fun i hi => ?_
  have := tms_walk (t := t) hb (List.mem_range.mp hi) k
  unfold tms at this
  rw [this]
theorem tms_0 : tms bs 0 = (List.range bs.length).map fun i : Nat => (i : Int) := by
  unfold tms
  refine List.map_congr_left fun i _ => ?_
  show (i : Int) + 0 = i
  omega
theorem tms_1 : tms bs 1 = bs := by
  unfold tms
  refine List.ext_getElem? fun i => ?_
  rw [List.getElem?_map]
  by_cases c : i < bs.length
  · rw [List.getElem?_range c, bA_get c]
    show some ((i : Int) + (0 + (bA bs i - i))) = _
    congr 1; omega
  · rw [List.getElem?_eq_none (by simpa using c), List.getElem?_eq_none (by omega)]; rfl
/-- all rests are reached -/
theorem orb_perm (h : Bd bs) (k : Nat) : ((List.range bs.length).map fun i => orb bs i k).Perm (List.range bs.length) := by
  refine (List.perm_ext_iff_of_nodup ?_ List.nodup_range).mpr fun j => ?_
  · rw [List.nodup_iff_pairwise_ne, List.pairwise_map]
    refine List.Pairwise.imp_of_mem ?_ List.pairwise_lt_range
    intro a b ha hb hab e
    have := h.orb_inj (List.mem_range.mp ha) (List.mem_range.mp hb) e
    omega
  · rw [List.mem_map, List.mem_range]
    constructor
    · rintro ⟨i, hi, rfl⟩
      exact orb_lt h.l1 (List.mem_range.mp hi)
    · intro hj
      obtain ⟨L, hL⟩ := h.per hj
      refine ⟨orb bs j (k * L - k), List.mem_range.mpr (orb_lt h.l1 hj), ?_⟩
      rw [← orb_add]
      have : k * 1 ≤ k * L := Nat.mul_le_mul_left k hL.1
      rw [show k * L - k + k = k * L by omega]
      exact hL.mul k
def sumW (bs : List Int) : Int := ((List.range bs.length).map (wB bs)).sum
theorem sum_orb (h : Bd bs) (k : Nat) : ((List.range bs.length).map fun i => wB bs (orb bs i k)).sum = sumW bs := by
  have := sum_perm ((orb_perm h k).map (wB bs))
  rw [List.map_map] at this
  exact this
theorem sum_add {α : Type} (xs : List α) (f g : α → Int) : (xs.map fun x => f x + g x).sum = (xs.map f).sum + (xs.map g).sum := by
  induction xs with
  | nil => rfl
  | cons x xs ih => simp only [List.map_cons, List.sum_cons, ih]; omega
theorem sum_walks (h : Bd bs) : ∀ t : Nat, ((List.range bs.length).map fun i => walk bs i t).sum = t * sumW bs
  | 0 => by
    have : ((List.range bs.length).map fun i => walk bs i 0) = (List.range bs.length).map fun _ => 0 := rfl
    rw [this]
    generalize List.range bs.length = l
    induction l with
    | nil => simp
    | cons x l ih => simpa using ih
  | t + 1 => by
    have e : ((List.range bs.length).map fun i => walk bs i (t + 1)) = (List.range bs.length).map fun i => walk bs i t + wB bs (orb bs i t) := rfl
    rw [e, sum_add, sum_walks h t, sum_orb h]
    push_cast
    grind
theorem sumW_tms (h : Bd bs) : sumW (tms bs t) = t * sumW bs := by
  rw [← sum_walks h]
  unfold sumW
  rw [tms_len]
  congr 1
  exact List.map_congr_left fun i hi => tms_w (List.mem_range.mp hi)
theorem sumW_dvd (h : Bd bs) : (bs.length : Int) ∣ sumW bs := by
  have e := sum_perm ((orb_perm h 1).map fun i : Nat => (i : Int))
  rw [List.map_map] at e
  have e2 : ((List.range bs.length).map (wB bs)) = (List.range bs.length).map fun i => (bs.length : Int) * (bA bs i / bs.length) + (((orb bs i 1 : Nat) : Int) + -(i : Int)) := List.map_congr_left fun i hi => by
    have := Int.mul_ediv_add_emod (bA bs i) bs.length
    have e3 : ((orb bs i 1 : Nat) : Int) = bA bs i % bs.length := nx_int h.l1
    unfold wB; omega
  unfold sumW
  rw [e2, sum_add, sum_add]
  have e4 : ((List.range bs.length).map fun i => ((orb bs i 1 : Nat) : Int)).sum = ((List.range bs.length).map fun i : Nat => (i : Int)).sum := e
  have e5 : ∀ l : List Nat, (l.map fun i : Nat => -(i : Int)).sum = -(l.map fun i : Nat => (i : Int)).sum := fun l => by
    induction l with
    | nil => rfl
    | cons x l ih => simp only [List.map_cons, List.sum_cons, ih]; omega
  have e6 : ∀ l : List Nat, (bs.length : Int) ∣ (l.map fun i => (bs.length : Int) * (bA bs i / bs.length)).sum := fun l => by
    induction l with
    | nil => exact Int.dvd_zero _
    | cons x l ih => simp only [List.map_cons, List.sum_cons]; exact Int.dvd_add (Int.dvd_mul_right _ _) ih
  rw [e4, e5]
  have := e6 (List.range bs.length)
  rw [show ∀ a : Int, a + -a = 0 from fun a => by omega, Int.add_zero]
  exact this
theorem sum_bd {α : Type} {lo hi : Int} {f : α → Int} : ∀ {l : List α}, (∀ x ∈ l, lo ≤ f x ∧ f x ≤ hi) → lo * l.length ≤ (l.map f).sum ∧ (l.map f).sum ≤ hi * l.length
  | [], _ => by simp
  | x :: l, h => by
    have ih := sum_bd fun y hy => h y (List.mem_cons_of_mem _ hy)
    have := h x List.mem_cons_self
    simp only [List.map_cons, List.sum_cons, List.length_cons]
    push_cast
    rw [Int.mul_add, Int.mul_add]
    omega
theorem sumW_bd (h : Bd bs) {B : Int} (hB : BB B bs) : -144 ≤ sumW bs ∧ sumW bs ≤ 12 * B := by
  have := h.l1
  have h2 := h.l2
  have b0 := BB.pos h hB
  have key := sum_bd (lo := -12) (hi := B) (f := wB bs) (l := List.range bs.length) fun i hi => by
    have hi := List.mem_range.mp hi
    have h3 := h.at_ hi
    have h4 := hB _ (List.mem_of_getElem? (bA_get hi))
    unfold wB; omega
  rw [List.length_range] at key
  have : B * (bs.length : Int) ≤ B * 12 := Int.mul_le_mul_of_nonneg_left (by omega) b0
  unfold sumW
  omega
theorem ruD_shp : Shp 2 (ruD bs) := shp_tup fun d hd => by
  obtain ⟨b, _, rfl⟩ := List.mem_map.mp hd
  exact shp_tup fun d hd => by
    simp at hd
    rcases hd with rfl | rfl <;> exact shp_int
theorem ru_ne : neD [ruD bs, ruD bs] = some (.bl false, false) := by
  rw [neD_q (ruD_shp.mono (by decide)) (ruD_shp.mono (by decide)), q_self ruD_shp]; rfl
theorem ru_eq : eqD [ruD bs, ruD bs] = some (.bl true, false) := by
  rw [eqD_q (ruD_shp.mono (by decide)) (ruD_shp.mono (by decide)), q_self ruD_shp]
@[simp] theorem ru_len : lenD [ruD bs] = some (.int bs.length, false) := by simp [ruD]
end
def LsQ (Q : DB → Prop) : Option (List Int) → Prop
  | some ns => (ns.Nodup ∧ ns.length ≤ 4000) ∧ Q (.int (ns.length : Nat), false)
  | none => False
theorem lset_ints {ns : List Int} (h : ns.Nodup) (h1 : ns.length ≤ 4000) : lsetD (.lst (ns.map D.int)) = some (.int (ns.length : Nat), false) := by
  have e : ∀ ns : List Int, intsOf (ns.map D.int) = some ns := fun ns => by
    induction ns with
    | nil => rfl
    | cons n ns ih => simp [intsOf, ih]
  simp [lsetD, e, h, h1]
@[simp] theorem ok_lsetM {m : M DB} {s : S} {Q : DB → S → Prop} : Ok (lsetM m) s Q = Ok m s fun t s1 => Ok (lift (lsetD t.1)) s1 Q := by
  unfold lsetM; rw [ok_bind]
/-- where v is behind t times -/
def fr (bs : List Int) (v : Int) (t : Nat) : Int := v + walk bs (v % bs.length).toNat t
section
variable {bs : List Int} {v u : Int} {t a b : Nat}
theorem rest_lt (h : Bd bs) : (v % bs.length).toNat < bs.length := by
  have h1 := h.l1
  have n0 : (0 : Int) < bs.length := by omega
  have r0 := Int.emod_nonneg v (show (bs.length : Int) ≠ 0 by omega)
  have r1 := Int.emod_lt_of_pos v n0
  omega
theorem fr_rest (h : Bd bs) (v0 : 0 ≤ v) : 0 ≤ fr bs v t ∧ (fr bs v t % bs.length).toNat = orb bs (v % bs.length).toNat t := by
  have h1 := h.l1
  have hi := rest_lt (v := v) h
  have n0 : (0 : Int) < bs.length := by omega
  have r0 := Int.emod_nonneg v (show (bs.length : Int) ≠ 0 by omega)
  have dm := Int.mul_ediv_add_emod v bs.length
  have q0 := Int.mul_nonneg (show 0 ≤ (bs.length : Int) by omega) (Int.ediv_nonneg v0 (show 0 ≤ (bs.length : Int) by omega))
  have e : v % bs.length = ((v % bs.length).toNat : Nat) := by omega
  unfold fr
  generalize (v % bs.length).toNat = i at *
  have w0 := walk_nn h hi t
  refine ⟨by omega, ?_⟩
  have : v + walk bs i t = (i + walk bs i t) + bs.length * (v / bs.length) := by omega
  rw [this, Int.add_mul_emod_self_left, walk_rest h1 hi]
  rfl
theorem fr_add (h : Bd bs) (v0 : 0 ≤ v) : fr bs (fr bs v a) b = fr bs v (a + b) := by
  have := (fr_rest (t := a) h v0).2
  show fr bs v a + walk bs (fr bs v a % bs.length).toNat b = _
  rw [this]
  unfold fr
  rw [walk_add]; omega
theorem fr_succ (h : Bd bs) (v0 : 0 ≤ v) : fr bs v t + wB bs (fr bs v t % bs.length).toNat = fr bs v (t + 1) := by
  rw [(fr_rest h v0).2]
  show v + walk bs _ t + _ = v + (walk bs _ t + wB bs (orb bs _ t))
  omega
theorem fr_0 : fr bs v 0 = v := by show v + 0 = v; omega
theorem fr_inj (h : Bd bs) (v0 : 0 ≤ v) (u0 : 0 ≤ u) (e : fr bs v t = fr bs u t) : v = u := by
  have a1 := (fr_rest (t := t) h v0).2
  have a2 := (fr_rest (t := t) h u0).2
  rw [e] at a1
  have a3 := h.orb_inj (rest_lt h) (rest_lt h) (a1.symm.trans a2)
  unfold fr at e
  rw [a3] at e
  omega
theorem fr_per (h : Bd bs) {L : Nat} (p : Per bs (v % bs.length).toNat L) (m : Nat) : fr bs v (m * L) = v + m * walk bs (v % bs.length).toNat L := by
  unfold fr; rw [p.walk]
end
end L2.Pd
set_option maxHeartbeats 1000000
namespace L2.Pd
open PySem PySem.Spec PyProof.Rows
def freeC (rows : List RowI) (x : Int) : Int := x - cntS rows x
def whoI (rows : List RowI) (x : Int) : Option Int := ledI (rows.map RowI.t) x
section
variable {rows : List RowI} {x y : Int}
theorem free_step (h : Apart rows) (x : Int) : freeC rows (x + 1) = freeC rows x + if whoI rows x = none then 1 else 0 := by
  unfold freeC whoI
  rw [cntS_step h]
  cases ledI (rows.map RowI.t) x <;> simp <;> omega
theorem free_0 (h : ∀ r ∈ rows, r.b) : freeC rows 0 = 0 := by unfold freeC; rw [cntS_0 h]; rfl
theorem free_mono (h : Apart rows) : ∀ k : Nat, freeC rows x ≤ freeC rows (x + k)
  | 0 => by simp
  | k + 1 => by
    have ih := free_mono h k
    have e := free_step h (x + k)
    rw [show x + ((k + 1 : Nat) : Int) = x + k + 1 by push_cast; omega, e]
    split <;> omega
theorem free_le (h : Apart rows) (hxy : x ≤ y) : freeC rows x ≤ freeC rows y := by
  have := free_mono (x := x) h (y - x).toNat
  rw [show x + ((y - x).toNat : Int) = y by omega] at this
  exact this
theorem free_up (h : Apart rows) : ∀ k : Nat, freeC rows (x + k) ≤ freeC rows x + k
  | 0 => by simp
  | k + 1 => by
    have ih := free_up h k
    have e := free_step h (x + k)
    rw [show x + ((k + 1 : Nat) : Int) = x + k + 1 by push_cast; omega, e]
    split <;> omega
/-- the free room of a number -/
def FreeN (rows : List RowI) (n x : Int) : Prop := 0 ≤ x ∧ freeC rows x = n ∧ whoI rows x = none
theorem FreeN.of (h : Apart rows) {n : Int} (x0 : 0 ≤ x) (h1 : freeC rows x ≤ n) (h2 : n < freeC rows (x + 1)) : FreeN rows n x := by
  rw [free_step h] at h2
  split at h2
  · exact ⟨x0, by omega, by assumption⟩
  · omega
theorem FreeN.uniq (h : Apart rows) {n : Int} (a : FreeN rows n x) (b : FreeN rows n y) : x = y := by
  obtain ⟨_, a1, a2⟩ := a
  obtain ⟨_, b1, b2⟩ := b
  have e1 := free_step h x
  have e2 := free_step h y
  rw [if_pos a2] at e1
  rw [if_pos b2] at e2
  rcases Int.lt_trichotomy x y with c | c | c
  · have := free_le h (show x + 1 ≤ y by omega); omega
  · exact c
  · have := free_le h (show y + 1 ≤ x by omega); omega
/-- strides divide W -/
def Wd_ (rows : List RowI) (W : Int) : Prop := 0 < W ∧ W < 2 ^ 190 ∧ ∀ r ∈ rows, max 1 r.p ∣ W
theorem more_le (h : Apart rows) {W : Int} (hW : Wd_ rows W) : moreS rows W ≤ W := by
  obtain ⟨b, hb⟩ : ∃ b : Int, ∀ r ∈ rows, r.o < b := by
    clear hW h
    induction rows with
    | nil => exact ⟨0, by simp⟩
    | cons r rows ih =>
      obtain ⟨b, hb⟩ := ih
      refine ⟨max b (r.o + 1), fun q hq => ?_⟩
      rcases List.mem_cons.mp hq with rfl | hq
      · omega
      · have := hb q hq; omega
  have e := cntS_far h.1 hb hW.2.2 hW.1 (t := 1) (by decide)
  have u := free_le h (show b ≤ b + W by have := hW.1; omega)
  unfold freeC at u
  rw [Int.mul_one] at e
  rw [e] at u
  omega
def manyS (rows : List RowI) : Int := (rows.map fun r => if 0 < r.p then r.o / r.p else -1).sum
theorem cnt_lim {r : RowI} (h : r.b) {W k : Int} (hx : r.o < W * k) (hw : max 1 r.p ∣ W) : cntR (W * k) r = (if 0 < r.p then W / r.p else 0) * k - (if 0 < r.p then r.o / r.p else -1) := by
  obtain ⟨f0, f1, s0, s1, o0, o1, p0, p1, hz⟩ := h
  unfold cntR
  rw [if_pos hx]
  by_cases c : r.p = 0
  · simp [c]
  · have hp : 0 < r.p := by omega
    rw [Int.max_eq_right (by omega)] at hw
    obtain ⟨m, rfl⟩ := hw
    simp only [c, if_false, hp, if_true]
    rw [Int.mul_ediv_cancel_left _ c]
    have d := Int.mul_ediv_add_emod r.o r.p
    have d0 := Int.emod_nonneg r.o c
    have d1 := Int.emod_lt_of_pos r.o hp
    have e : r.p * m * k - r.o + r.p - 1 = (r.p - 1 - r.o % r.p) + r.p * (m * k - r.o / r.p) := by grind
    rw [e, Int.add_mul_ediv_left _ _ c, Int.ediv_eq_zero_of_lt (by omega) (by omega)]; omega
theorem cntS_lim (h : ∀ r ∈ rows, r.b) {W k : Int} (hx : ∀ r ∈ rows, r.o < W * k) (hw : ∀ r ∈ rows, max 1 r.p ∣ W) : cntS rows (W * k) = moreS rows W * k - manyS rows := by
  unfold cntS moreS manyS
  induction rows with
  | nil => simp
  | cons r rows ih =>
    simp only [List.map_cons, List.sum_cons]
    rw [ih (fun q hq => h q (List.mem_cons_of_mem _ hq)) (fun q hq => hx q (List.mem_cons_of_mem _ hq)) (fun q hq => hw q (List.mem_cons_of_mem _ hq)), cnt_lim (h r List.mem_cons_self) (hx r List.mem_cons_self) (hw r List.mem_cons_self)]
    grind
theorem far_k {W : Int} (hW : 0 < W) (B : Int) : ∃ k : Int, 0 ≤ k ∧ (∀ r ∈ rows, r.o < W * k) ∧ B < W * k := by
  induction rows with
  | nil =>
    refine ⟨B.toNat + 1, by omega, by simp, ?_⟩
    have : 1 * ((B.toNat : Int) + 1) ≤ W * (B.toNat + 1) := Int.mul_le_mul_of_nonneg_right (by omega) (by omega)
    omega
  | cons r rows ih =>
    obtain ⟨k, k0, h1, h2⟩ := ih
    refine ⟨k + r.o.toNat + 1, by omega, fun q hq => ?_, ?_⟩
    · have e : W * (k + r.o.toNat + 1) = W * k + W * (r.o.toNat + 1) := by grind
      have : 1 * ((r.o.toNat : Int) + 1) ≤ W * (r.o.toNat + 1) := Int.mul_le_mul_of_nonneg_right (by omega) (by omega)
      have := Int.mul_nonneg (show 0 ≤ W by omega) k0
      rcases List.mem_cons.mp hq with rfl | hq
      · omega
      · have := h1 q hq; omega
    · have e : W * (k + r.o.toNat + 1) = W * k + W * (r.o.toNat + 1) := by grind
      have : 1 * ((r.o.toNat : Int) + 1) ≤ W * (r.o.toNat + 1) := Int.mul_le_mul_of_nonneg_right (by omega) (by omega)
      omega
/-- of share 1: behind all rows as many are free as told -/
theorem free_lim (h : Apart rows) {W k : Int} (hW : Wd_ rows W) (e : moreS rows W = W) (hx : ∀ r ∈ rows, r.o < W * k) : freeC rows (W * k) = manyS rows := by
  unfold freeC
  rw [cntS_lim h.1 hx hW.2.2, e]; omega
theorem free_most (h : Apart rows) {W : Int} (hW : Wd_ rows W) (e : moreS rows W = W) (x : Int) : freeC rows x ≤ manyS rows := by
  obtain ⟨k, _, h1, h2⟩ := far_k (rows := rows) hW.1 x
  rw [← free_lim h hW e h1]
  exact free_le h (by omega)
/-- there are free rooms beyond any number, or as many as told -/
theorem free_ex (h : Apart rows) {W n : Int} (hW : Wd_ rows W) (hn : moreS rows W = W → n < manyS rows) : ∃ X, n < freeC rows X := by
  by_cases e : moreS rows W = W
  · obtain ⟨k, _, h1, _⟩ := far_k (rows := rows) hW.1 0
    exact ⟨W * k, by rw [free_lim h hW e h1]; exact hn e⟩
  · have hl := more_le h hW
    obtain ⟨k, k0, h1, _⟩ := far_k (rows := rows) hW.1 0
    have x0 := Int.mul_nonneg (show 0 ≤ W by have := hW.1; omega) k0
    refine ⟨W * k + W * (n.toNat + 1), ?_⟩
    have e2 := cntS_far h.1 h1 hW.2.2 hW.1 (t := n.toNat + 1) (by omega)
    have u := free_le h x0
    rw [free_0 h.1] at u
    unfold freeC at u ⊢
    rw [e2]
    have : 1 * ((n.toNat : Int) + 1) ≤ (W - moreS rows W) * (n.toNat + 1) := Int.mul_le_mul_of_nonneg_right (by omega) (by omega)
    have e3 : (W - moreS rows W) * ((n.toNat : Int) + 1) = W * (n.toNat + 1) - moreS rows W * (n.toNat + 1) := by grind
    omega
/-- what free tells -/
def FreeT (rows : List RowI) (W n : Int) (o : Option Int) : Prop := (o = none ∧ moreS rows W = W ∧ manyS rows ≤ n) ∨ ∃ x, o = some x ∧ FreeN rows n x ∧ (moreS rows W = W → n < manyS rows)
theorem FreeT.uniq (h : Apart rows) {W n : Int} {a b : Option Int} (ha : FreeT rows W n a) (hb : FreeT rows W n b) : a = b := by
  rcases ha with ⟨rfl, a1, a2⟩ | ⟨x, rfl, a1, a2⟩ <;> rcases hb with ⟨rfl, b1, b2⟩ | ⟨y, rfl, b1, b2⟩
  · rfl
  · have := b2 a1; omega
  · have := a2 b1; omega
  · rw [FreeN.uniq h a1 b1]
end
/-- fractions 1 by p: numbers of W-th parts -/
theorem gcd_quot {a b : Int} (hb : 0 < b) : 0 < (Int.gcd a b : Int) ∧ 0 < b / (Int.gcd a b : Int) ∧ Int.gcd (a / (Int.gcd a b : Int)) (b / (Int.gcd a b : Int)) = 1 ∧ a = (Int.gcd a b : Int) * (a / (Int.gcd a b : Int)) ∧ b = (Int.gcd a b : Int) * (b / (Int.gcd a b : Int)) := by
  have g0 : 0 < a.gcd b := Int.gcd_pos_of_ne_zero_right _ (by omega)
  have e1 := Int.mul_ediv_cancel' (Int.gcd_dvd_left (a := a) (b := b))
  have e2 := Int.mul_ediv_cancel' (Int.gcd_dvd_right (a := a) (b := b))
  refine ⟨by omega, ?_, ?_, e1.symm, e2.symm⟩
  · have : 0 < (a.gcd b : Int) * (b / (a.gcd b : Int)) := by omega
    exact Int.pos_of_mul_pos_right this (by omega)
  · exact Int.gcd_ediv_gcd_ediv_gcd g0
structure Frac (W S top bot : Int) : Prop where
  b0 : 0 < bot
  cp : Int.gcd top bot = 1
  eq : top * W = bot * S
theorem Frac.dvd {W S top bot : Int} (h : Frac W S top bot) : bot ∣ W := by
  have e : bot ∣ top * W := ⟨S, h.eq⟩
  have e2 := Int.dvd_gcd_mul_iff_dvd_mul.mpr e
  rw [Int.gcd_comm, h.cp] at e2
  simpa using e2
theorem Frac.start {W : Int} : Frac W 0 0 1 := ⟨by decide, by decide, by simp⟩
theorem Frac.next {W S top bot p : Int} (h : Frac W S top bot) (p0 : 0 < p) (hp : p ∣ W) : Frac W (S + W / p) ((top * p + 1 * bot) / (Int.gcd (top * p + 1 * bot) (bot * p) : Int)) ((bot * p) / (Int.gcd (top * p + 1 * bot) (bot * p) : Int)) := by
  have bp : 0 < bot * p := Int.mul_pos h.b0 p0
  obtain ⟨g0, q0, q1, q2, q3⟩ := gcd_quot (a := top * p + 1 * bot) bp
  generalize (Int.gcd (top * p + 1 * bot) (bot * p) : Int) = g at *
  obtain ⟨m, rfl⟩ := hp
  refine ⟨q0, q1, ?_⟩
  rw [Int.mul_ediv_cancel_left _ (by omega)]
  have he := h.eq
  generalize (top * p + 1 * bot) / g = u at *
  generalize (bot * p) / g = v at *
  have : g * (u * (p * m)) = g * (v * (S + m)) := by
    have a1 : g * (u * (p * m)) = (g * u) * (p * m) := by grind
    have a2 : g * (v * (S + m)) = (g * v) * (S + m) := by grind
    rw [a1, a2, ← q2, ← q3]
    grind
  exact Int.eq_of_mul_eq_mul_left (by omega) this
theorem Frac.one {W S top bot : Int} (h : Frac W S top bot) (W0 : 0 < W) : (top = 1 ∧ bot = 1) ↔ S = W := by
  constructor
  · rintro ⟨rfl, rfl⟩
    have := h.eq; omega
  · rintro rfl
    have e := h.eq
    rw [Int.mul_comm bot, Int.mul_comm top] at e
    have e2 : top = bot := Int.eq_of_mul_eq_mul_left (by omega) e
    subst e2
    have := h.cp
    have b0 := h.b0
    rw [Int.gcd_self] at this
    omega
end L2.Pd
set_option maxHeartbeats 1000000
namespace L2.Pd
open PySem PySem.Spec PyProof.Rows
def Dc (a b : Int × Int) : Prop := ∀ x, ¬ (Md a x ∧ Md b x)
structure LJ (G : RowI → Prop) (A B : RowI → Int → Prop) (ns : List (Int × Int)) (i : Nat) (rs : List (Int × Int)) (rows : List RowI) : Prop where
  cl : rs.Pairwise Dc
  len : rows.length ≤ 2 * i
  ok : ∀ r ∈ rows, G r
  ap : rows.Pairwise fun a b => (∀ x, ¬ (A a x ∧ A b x)) ∧ ∀ x, ¬ (B a x ∧ B b x)
  nn : ∀ r ∈ rows, ∀ c ∈ ns.drop i, ∀ x, ¬ (A r x ∧ Md c x)
  rr : ∀ r ∈ rows, ∀ c ∈ rs, ∀ x, ¬ (B r x ∧ Md c x)
theorem LJ.add {G : RowI → Prop} {A B : RowI → Int → Prop} {ns rs : List (Int × Int)} {i j : Nat} {rows new : List RowI} {c e : Int × Int} (h : LJ G A B ns i rs rows) (hns : ns.Pairwise Dc) (hc : ns[i]? = some c) (he : rs[j]? = some e) (hl : new.length ≤ 2)
    (ho : ∀ r ∈ new, G r) (hp : new.Pairwise fun a b => (∀ x, ¬ (A a x ∧ A b x)) ∧ ∀ x, ¬ (B a x ∧ B b x)) (hn : ∀ r ∈ new, ∀ x, A r x → Md c x) (hr : ∀ r ∈ new, ∀ x, B r x → Md e x) : LJ G A B ns (i + 1) (rs.eraseIdx j) (rows ++ new) := by
  have cd : ns.drop i = c :: ns.drop (i + 1) := by
    obtain ⟨hi, rfl⟩ := List.getElem?_eq_some_iff.mp hc
    rw [List.getElem_cons_drop]
  have cm : c ∈ ns.drop i := by rw [cd]; exact List.mem_cons_self
  have em : e ∈ rs := List.mem_of_getElem? he
  have dn : ∀ d ∈ ns.drop (i + 1), ∀ x, ¬ (Md c x ∧ Md d x) := by
    have := hns.sublist (List.drop_sublist i ns)
    rw [cd, List.pairwise_cons] at this
    exact this.1
  have dr : ∀ d ∈ rs.eraseIdx j, ∀ x, ¬ (Md e x ∧ Md d x) := by
    have := h.cl
    rw [at_split he, List.pairwise_append, List.pairwise_cons] at this
    intro d hd x z
    rw [List.eraseIdx_eq_take_drop_succ] at hd
    rcases List.mem_append.mp hd with hd | hd
    · exact this.2.2 d hd e List.mem_cons_self x ⟨z.2, z.1⟩
    · exact this.2.1.1 d hd x z
  refine ⟨h.cl.sublist (List.eraseIdx_sublist ..), by rw [List.length_append]; have := h.len; omega, ?_, ?_, ?_, ?_⟩
  · intro r hr
    rcases List.mem_append.mp hr with hr | hr
    · exact h.ok r hr
    · exact ho r hr
  · rw [List.pairwise_append]
    exact ⟨h.ap, hp, fun a ha b hb => ⟨fun x z => h.nn a ha c cm x ⟨z.1, hn b hb x z.2⟩, fun x z => h.rr a ha e em x ⟨z.1, hr b hb x z.2⟩⟩⟩
  · intro r hr' d hd x z
    rcases List.mem_append.mp hr' with hr' | hr'
    · exact h.nn r hr' d (drop_sub hd) x z
    · exact dn d hd x ⟨hn r hr' x z.1, z.2⟩
  · intro r hr' d hd x z
    rcases List.mem_append.mp hr' with hr' | hr'
    · exact h.rr r hr' d (List.mem_of_mem_eraseIdx hd) x z
    · exact dr d hd x ⟨hr r hr' x z.1, z.2⟩
/-- rows of share 1 -/
def RowF (M : Int) (r : RowI) : Prop := r.ok ∧ max 1 r.s ∣ M ∧ max 1 r.p ∣ 24 ∧ r.o < 2 ^ 110
def aR (r : RowI) (x : Int) : Prop := Mm r.o r.p x
def bR (r : RowI) (x : Int) : Prop := Mm r.f r.s x
/-- classes of numbers with common multiple M -/
def Nc (M : Int) (ls : List (Int × Int)) : Prop := (∀ c ∈ ls, 0 ≤ c.1 ∧ c.1 < c.2 ∧ c.2 ∣ M) ∧ ls.Pairwise Dc
theorem mk_full {M rest step spot stride late high k : Int} (M0 : 0 < M) (M1 : M ≤ 240) (hc : 0 ≤ rest ∧ rest < step ∧ step ∣ M) (he : 0 ≤ spot ∧ spot < stride ∧ stride ∣ 24) (l0 : 0 ≤ late) (l1 : late < 3) (h0 : 0 ≤ high) (h1 : high < 5) :
    let a : RowI := ⟨rest + step * late, step, spot + stride * high, stride⟩
    let b : RowI := ⟨rest + step * (late - 1), 0, spot + stride * k, 0⟩
    RowF M a ∧ (∀ x, bR a x → Md (rest, step) x) ∧ (∀ x, aR a x → Md (spot, stride) x) ∧
    (0 < late → 0 ≤ k → k < high → RowF M b ∧ ((∀ x, ¬ (aR a x ∧ aR b x)) ∧ ∀ x, ¬ (bR a x ∧ bR b x)) ∧ (∀ x, bR b x → Md (rest, step) x) ∧ (∀ x, aR b x → Md (spot, stride) x)) := by
  obtain ⟨a0, a1, a2⟩ := hc
  obtain ⟨b0, b1, b2⟩ := he
  have a3 := Int.le_of_dvd M0 a2
  have b3 := Int.le_of_dvd (by decide) b2
  have m1 : 0 ≤ step * late := Int.mul_nonneg (by omega) l0
  have m2 : step * late ≤ 240 * 3 := Int.mul_le_mul (by omega) (by omega) l0 (by decide)
  have m3 : 0 ≤ stride * high := Int.mul_nonneg (by omega) (by omega)
  have m4 : stride * high ≤ 24 * 5 := Int.mul_le_mul (by omega) (by omega) (by omega) (by decide)
  refine ⟨⟨⟨by show 0 ≤ rest + step * late; omega, by show rest + step * late < 2 ^ 400; omega, by show 0 ≤ step; omega, by show step ≤ 240; omega, by show 0 ≤ spot + stride * high; omega, by show spot + stride * high < 2 ^ 400; omega, by show 0 ≤ stride; omega, by show stride < 2 ^ 200; omega, by show step = 0 ↔ stride = 0; omega⟩, ?_, ?_, by show spot + stride * high < 2 ^ 110; omega⟩, ?_, ?_, ?_⟩
  · show max 1 step ∣ M
    rw [Int.max_eq_right (by omega)]; exact a2
  · show max 1 stride ∣ _
    rw [Int.max_eq_right (by omega)]; exact b2
  · rintro x ⟨n, _, rfl⟩
    exact ⟨late + n, by simp only; grind⟩
  · rintro x ⟨n, _, rfl⟩
    exact ⟨high + n, by simp only; grind⟩
  · intro l2 k0 k1
    have n1 : 0 ≤ step * (late - 1) := Int.mul_nonneg (by omega) (by omega)
    have n2 : step * (late - 1) = step * late - step := by rw [Int.mul_sub, Int.mul_one]
    have n3 : 0 ≤ stride * k := Int.mul_nonneg (by omega) (by omega)
    have n5 : stride * high = stride * k + stride * (high - k) := by grind
    have n6 : 0 < stride * (high - k) := Int.mul_pos (by omega) (by omega)
    refine ⟨⟨⟨by show 0 ≤ rest + step * (late - 1); omega, by show rest + step * (late - 1) < 2 ^ 400; omega, Int.le_refl 0, by show (0 : Int) ≤ 240; decide, by show 0 ≤ spot + stride * k; omega, by show spot + stride * k < 2 ^ 400; omega, Int.le_refl 0, by show (0 : Int) < 2 ^ 200; decide, Iff.rfl⟩, by show max 1 0 ∣ M; exact Int.one_dvd _, by show max 1 0 ∣ (24 : Int); decide, by show spot + stride * k < 2 ^ 110; omega⟩, ⟨?_, ?_⟩, ?_, ?_⟩
    · rintro x ⟨⟨n, n0, e⟩, z⟩
      have e2 : x = spot + stride * k := mm0.mp z
      have := Int.mul_nonneg (show 0 ≤ stride by omega) n0
      simp only at e
      omega
    · rintro x ⟨⟨n, n0, e⟩, z⟩
      have e2 : x = rest + step * (late - 1) := mm0.mp z
      have := Int.mul_nonneg (show 0 ≤ step by omega) n0
      simp only at e
      omega
    · intro x z
      have e2 : x = rest + step * (late - 1) := mm0.mp z
      exact ⟨late - 1, by simp only; omega⟩
    · intro x z
      have e2 : x = spot + stride * k := mm0.mp z
      exact ⟨k, by simp only; omega⟩
/-- halves in turn -/
structure QI (ls : List (Int × Int)) (c : Nat) : Prop where
  ex : ∃ (s : Int) (fr bk : List (Int × Int)), ls = fr ++ bk ∧ fr ≠ [] ∧ s ∣ 8 ∧ 0 < s ∧ (∀ x ∈ fr, x.2 = s) ∧ (∀ x ∈ bk, x.2 = 2 * s) ∧ 2 * (fr.length : Int) + bk.length = 2 * s
  len : ls.length = c
  rg : ∀ x ∈ ls, 0 ≤ x.1 ∧ x.1 < x.2
  pw : ls.Pairwise Dc
theorem QI.start : QI [(0, 1)] 1 :=
  ⟨⟨1, [(0, 1)], [], rfl, by simp, by decide, by decide, by simp, by simp, by decide⟩, rfl, by simp, List.pairwise_singleton _ _⟩
theorem dvd8 {s : Int} (h : s ∣ 8) (h0 : 0 < s) (h1 : s ≤ 7) : 2 * s ∣ 8 := by
  have : s = 1 ∨ s = 2 ∨ s = 3 ∨ s = 4 ∨ s = 5 ∨ s = 6 ∨ s = 7 := by omega
  rcases this with rfl | rfl | rfl | rfl | rfl | rfl | rfl
  · decide
  · decide
  · exact absurd h (by decide)
  · decide
  · exact absurd h (by decide)
  · exact absurd h (by decide)
  · exact absurd h (by decide)
theorem QI.step {x : Int × Int} {ls : List (Int × Int)} {c : Nat} (h : QI (x :: ls) c) (hc : c ≤ 14) : QI (ls ++ [(x.1, 2 * x.2), (x.1 + x.2, 2 * x.2)]) (c + 1) := by
  obtain ⟨⟨s, fr, bk, e, hne, s8, s0, hf, hb, hl⟩, len, rg, pw⟩ := h
  cases fr with
  | nil => exact absurd rfl hne
  | cons y fr =>
    cases e
    have xs : x.2 = s := hf x List.mem_cons_self
    have xr := rg x List.mem_cons_self
    rw [List.pairwise_cons] at pw
    have len' : (fr ++ bk).length + 1 = c := len
    rw [List.length_append] at len'
    have low1 : ∀ z, Md (x.1, 2 * x.2) z → Md x z := by
      rintro z ⟨m, q⟩
      exact ⟨2 * m, by simp only at q; grind⟩
    have low2 : ∀ z, Md (x.1 + x.2, 2 * x.2) z → Md x z := by
      rintro z ⟨m, q⟩
      exact ⟨2 * m + 1, by simp only at q; grind⟩
    have x2 : 0 < x.2 := by omega
    have apart : ∀ z, ¬ (Md (x.1, 2 * x.2) z ∧ Md (x.1 + x.2, 2 * x.2) z) := by
      rintro z ⟨⟨m, q⟩, n, q'⟩
      simp only at q q'
      have e1 : x.2 * 1 = x.2 * (2 * (m - n)) := by grind
      have := Int.eq_of_mul_eq_mul_left (by omega) e1
      omega
    refine ⟨?_, by simp; omega, ?_, ?_⟩
    · cases fr with
      | cons y fr =>
        refine ⟨s, y :: fr, bk ++ [(x.1, 2 * x.2), (x.1 + x.2, 2 * x.2)], by simp, by simp, s8, s0, fun z hz => hf z (List.mem_cons_of_mem _ hz), fun z hz => ?_, ?_⟩
        · rcases List.mem_append.mp hz with hz | hz
          · exact hb z hz
          · simp at hz
            rcases hz with rfl | rfl <;> simp [xs]
        · simp only [List.length_cons, List.length_append, List.length_nil] at hl ⊢
          push_cast at hl ⊢
          omega
      | nil =>
        simp only [List.length_cons, List.length_nil] at hl len'
        push_cast at hl
        refine ⟨2 * s, bk ++ [(x.1, 2 * x.2), (x.1 + x.2, 2 * x.2)], [], by simp, by simp, dvd8 s8 s0 (by omega), by omega, fun z hz => ?_, by simp, ?_⟩
        · rcases List.mem_append.mp hz with hz | hz
          · exact hb z hz
          · simp at hz
            rcases hz with rfl | rfl <;> simp [xs]
        · simp only [List.length_append, List.length_cons, List.length_nil]
          push_cast
          omega
    · intro z hz
      rcases List.mem_append.mp hz with hz | hz
      · exact rg z (List.mem_cons_of_mem _ hz)
      · simp at hz
        rcases hz with rfl | rfl <;> (simp only; omega)
    · rw [List.pairwise_append]
      refine ⟨pw.2, ?_, fun a ha b hb z hz => ?_⟩
      · exact .cons (fun b hb => by rw [List.mem_singleton.mp hb]; exact apart) (List.pairwise_singleton _ _)
      · simp at hb
        rcases hb with rfl | rfl
        · exact pw.1 a ha z ⟨low1 z hz.2, hz.1⟩
        · exact pw.1 a ha z ⟨low2 z hz.2, hz.1⟩
theorem QI.nc {ls : List (Int × Int)} {c : Nat} (h : QI ls c) : Nc 16 ls := by
  obtain ⟨⟨s, fr, bk, rfl, _, s8, s0, hf, hb, _⟩, _, rg, pw⟩ := h
  refine ⟨fun x hx => ⟨(rg x hx).1, (rg x hx).2, ?_⟩, pw⟩
  rcases List.mem_append.mp hx with hx | hx
  · rw [hf x hx]; exact Int.dvd_trans s8 (by decide)
  · rw [hb x hx]; exact Int.mul_dvd_mul (Int.dvd_refl 2) s8
theorem nc_row {n : Nat} : Nc n ((List.range n).map fun i : Nat => ((i : Int), (n : Int))) := by
  refine ⟨fun x hx => ?_, ?_⟩
  · obtain ⟨i, hi, rfl⟩ := List.mem_map.mp hx
    have := List.mem_range.mp hi
    exact ⟨by simp only; omega, by simp only; omega, Int.dvd_refl _⟩
  · rw [List.pairwise_map]
    refine List.Pairwise.imp_of_mem ?_ List.pairwise_lt_range
    rintro i j hi hj hij x ⟨⟨m, e⟩, k, e'⟩
    have hi := List.mem_range.mp hi
    have hj := List.mem_range.mp hj
    simp only at e e'
    have e1 : (n : Int) * (m - k) = j - i := by grind
    have p1 : 0 < m - k := Int.pos_of_mul_pos_right (a := (n : Int)) (by omega) (by omega)
    have : (n : Int) * 1 ≤ n * (m - k) := Int.mul_le_mul_of_nonneg_left (by omega) (by omega)
    omega
theorem LJ.lay {M : Int} {ns rs : List (Int × Int)} {i : Nat} {rows : List RowI} (h : LJ (RowF M) aR bR ns i rs rows) (M0 : 0 < M) (M1 : M ≤ 240) (hi : i ≤ 30) : Lay rows :=
  ⟨by have := h.len; omega, ⟨fun r hr => (h.ok r hr).1, M, M0, M1, fun r hr => (h.ok r hr).2.1⟩, h.ap.imp fun hab => ⟨hab.2, hab.1⟩⟩
theorem moreS_mul {rows : List RowI} {w : Int} (m : Int) (hw : ∀ r ∈ rows, max 1 r.p ∣ w) : moreS rows (w * m) = moreS rows w * m := by
  unfold moreS
  induction rows with
  | nil => simp
  | cons r rows ih =>
    simp only [List.map_cons, List.sum_cons]
    rw [ih fun q hq => hw q (List.mem_cons_of_mem _ hq), Int.add_mul]
    congr 1
    by_cases c : 0 < r.p
    · have := hw r List.mem_cons_self
      rw [Int.max_eq_right (by omega)] at this
      obtain ⟨k, rfl⟩ := this
      simp only [c, if_true]
      rw [Int.mul_assoc, Int.mul_ediv_cancel_left _ (by omega), Int.mul_ediv_cancel_left _ (by omega)]
    · simp [c]
theorem moreS_iff {rows : List RowI} {w W : Int} (w0 : 0 < w) (W0 : 0 < W) (hd : w ∣ W) (hw : ∀ r ∈ rows, max 1 r.p ∣ w) : moreS rows w = w ↔ moreS rows W = W := by
  obtain ⟨m, rfl⟩ := hd
  have m0 : 0 < m := Int.pos_of_mul_pos_right W0 w0
  rw [moreS_mul m hw]
  constructor
  · intro e; rw [e]
  · intro e; exact Int.eq_of_mul_eq_mul_right (by omega) e
theorem cnt_filt {rows : List RowI} (h : Apart rows) : ∀ s : Nat, freeC rows s = (((List.range s).filter fun k : Nat => (whoI rows (k : Int)).isNone).length : Nat)
  | 0 => by rw [show ((0 : Nat) : Int) = 0 from rfl, free_0 h.1]; rfl
  | s + 1 => by
    have ih := cnt_filt h s
    have e := free_step h (s : Int)
    rw [show ((s + 1 : Nat) : Int) = (s : Int) + 1 by push_cast; rfl, e, ih, List.range_succ, List.filter_append, List.length_append]
    cases c : whoI rows (s : Int) <;> simp [c]
theorem filt_get {p : Nat → Bool} : ∀ (N k s : Nat), ((List.range N).filter p)[k]? = some s → s < N ∧ p s = true ∧ k = ((List.range s).filter p).length
  | 0, k, s, h => by simp at h
  | N + 1, k, s, h => by
    rw [List.range_succ, List.filter_append] at h
    by_cases c : k < ((List.range N).filter p).length
    · rw [List.getElem?_append_left c] at h
      obtain ⟨h1, h2, h3⟩ := filt_get N k s h
      exact ⟨by omega, h2, h3⟩
    · rw [List.getElem?_append_right (by omega)] at h
      by_cases q : p N = true
      · simp [q] at h
        rw [List.getElem?_eq_some_iff] at h
        obtain ⟨h1, h2⟩ := h
        simp at h1 h2
        subst h2
        exact ⟨by omega, q, by omega⟩
      · simp [q] at h
theorem spot_free {rows : List RowI} (h : Apart rows) {N k s : Nat} (e : ((List.range N).filter fun k : Nat => (whoI rows (k : Int)).isNone)[k]? = some s) : FreeN rows k s := by
  obtain ⟨h1, h2, h3⟩ := filt_get N k s e
  refine ⟨by omega, ?_, by simpa using h2⟩
  rw [cnt_filt h, h3]
theorem more_rev (rows : List RowI) (W : Int) : moreS rows.reverse W = moreS rows W := sum_perm ((List.reverse_perm rows).map _)
theorem many_rev (rows : List RowI) : manyS rows.reverse = manyS rows := sum_perm ((List.reverse_perm rows).map _)
theorem FreeT.rev {rows : List RowI} (h : Apart rows) (h2 : Apart rows.reverse) {W n : Int} {o : Option Int} (f : FreeT rows.reverse W n o) : FreeT rows W n o := by
  rcases f with ⟨rfl, a1, a2⟩ | ⟨x, rfl, ⟨x0, x1, x2⟩, a2⟩
  · rw [more_rev] at a1
    rw [many_rev] at a2
    exact .inl ⟨rfl, a1, a2⟩
  · rw [more_rev, many_rev] at a2
    have e := free_step h2 x
    rw [if_pos x2] at e
    unfold freeC at e x1
    rw [cntS_rev, cntS_rev] at e
    rw [cntS_rev] at x1
    exact .inr ⟨x, rfl, FreeN.of h x0 (by unfold freeC; omega) (by unfold freeC; omega), a2⟩
end L2.Pd
set_option maxHeartbeats 4000000
namespace L2.Pd
open PySem PySem.Spec PyProof.Rows
abbrev AL := List (Int × D)
def ksA (L : AL) : List L2.Key := L.map fun p => .inl p.1
def dsA (L : AL) : List D := L.map (·.2)
def dctD (L : AL) : D := .dct (ksA L) (dsA L)
def getA (L : AL) (k : Int) : Option D := (L.find? fun p => decide (p.1 = k)).map (·.2)
def putA (L : AL) (k : Int) (v : D) : AL := if (L.any fun p => decide (p.1 = k)) = true then L.map (fun p => if p.1 = k then (p.1, v) else p) else L ++ [(k, v)]
theorem ksA_len {L : AL} : (ksA L).length = L.length := by simp [ksA]
theorem zipA (L : AL) : (ksA L).zip (dsA L) = L.map fun p => ((.inl p.1 : L2.Key), p.2) := by
  induction L with
  | nil => rfl
  | cons p L ih => simp only [ksA, dsA, List.map_cons, List.zip_cons_cons] at ih ⊢; rw [ih]
theorem anyA (L : AL) (k : Int) : ((ksA L).any fun j => decide (j = (.inl k : L2.Key))) = L.any fun p => decide (p.1 = k) := by
  induction L with
  | nil => rfl
  | cons p L ih =>
    simp only [ksA, List.map_cons, List.any_cons] at ih ⊢
    rw [ih]
    congr 1
    simp
theorem lookD_A (L : AL) (k : Int) : lookD (ksA L) (dsA L) (.inl k) = getA L k := by
  unfold lookD getA
  rw [zipA]
  induction L with
  | nil => rfl
  | cons p L ih =>
    rw [List.map_cons, List.find?_cons, List.find?_cons]
    by_cases e : p.1 = k
    · simp [e]
    · simpa [e] using ih
theorem putKs_A (L : AL) (k : Int) (v : D) : putKs (ksA L) (.inl k) = ksA (putA L k v) := by
  unfold putKs putA
  rw [anyA]
  by_cases e : (L.any fun p => decide (p.1 = k)) = true
  · rw [if_pos e, if_pos e]
    unfold ksA
    rw [List.map_map]
    refine List.map_congr_left fun p _ => ?_
    show _ = Sum.inl (if p.1 = k then (p.1, v) else p).1
    split <;> rfl
  · rw [if_neg e, if_neg e]
    simp [ksA]
theorem putDs_A (L : AL) (k : Int) (v : D) : putDs (ksA L) (dsA L) (.inl k) v = dsA (putA L k v) := by
  unfold putDs putA
  rw [anyA]
  by_cases e : (L.any fun p => decide (p.1 = k)) = true
  · rw [if_pos e, if_pos e, zipA, List.map_map]
    unfold dsA
    rw [List.map_map]
    refine List.map_congr_left fun p _ => ?_
    show (if (Sum.inl p.1 : L2.Key) = .inl k then v else p.2) = (if p.1 = k then (p.1, v) else p).2
    by_cases c : p.1 = k <;> simp [c]
  · rw [if_neg e, if_neg e]
    simp [dsA]
theorem putA_len (L : AL) (k : Int) (v : D) : (putA L k v).length ≤ L.length + 1 := by
  unfold putA; split <;> simp
theorem putA_keys (L : AL) (k : Int) (v : D) : (putA L k v).map (·.1) = if (L.any fun p => decide (p.1 = k)) = true then L.map (·.1) else L.map (·.1) ++ [k] := by
  unfold putA
  split
  · rw [List.map_map]
    refine List.map_congr_left fun p _ => ?_
    show (if p.1 = k then (p.1, v) else p).1 = p.1
    split <;> rfl
  · simp
theorem any_iff {L : AL} {k : Int} : (L.any fun p => decide (p.1 = k)) = true ↔ k ∈ L.map (·.1) := by
  rw [List.any_eq_true]
  constructor
  · rintro ⟨p, hp, e⟩
    exact List.mem_map.mpr ⟨p, hp, of_decide_eq_true e⟩
  · intro h
    obtain ⟨p, hp, e⟩ := List.mem_map.mp h
    exact ⟨p, hp, decide_eq_true e⟩
theorem putA_nd {L : AL} {k : Int} {v : D} (h : (L.map (·.1)).Nodup) : ((putA L k v).map (·.1)).Nodup := by
  rw [putA_keys]
  split
  · exact h
  · rename_i c
    rw [List.nodup_append]
    refine ⟨h, by simp, fun a ha b hb => ?_⟩
    rw [List.mem_singleton.mp hb]
    intro e
    subst e
    exact c (any_iff.mpr ha)
theorem putA_mem {L : AL} {k j : Int} {v : D} : j ∈ (putA L k v).map (·.1) ↔ j ∈ L.map (·.1) ∨ j = k := by
  rw [putA_keys]
  split
  · rename_i c
    exact ⟨.inl, fun z => z.elim id fun z => z ▸ any_iff.mp c⟩
  · rw [List.mem_append, List.mem_singleton]
theorem getA_put (L : AL) (k j : Int) (v : D) : getA (putA L k v) j = if j = k then some v else getA L j := by
  unfold putA
  split
  · rename_i c
    unfold getA
    induction L with
    | nil => simp at c
    | cons p L ih =>
      rw [List.map_cons, List.find?_cons, List.find?_cons]
      by_cases e1 : p.1 = k
      · by_cases e2 : j = k
        · subst e2; simp [e1]
        · have e3 : ¬ p.1 = j := fun z => e2 (z.symm.trans e1)
          have e3' : ¬ k = j := fun z => e2 z.symm
          simp only [e1, if_true, e3', decide_false, e2, if_false]
          by_cases c2 : (L.any fun p => decide (p.1 = k)) = true
          · have := ih c2
            simp only [e2, if_false] at this
            exact this
          · have hid : L.map (fun p => if p.1 = k then (p.1, v) else p) = L := by
              refine (List.map_congr_left fun p hp => ?_).trans (List.map_id L)
              have : ¬ p.1 = k := fun z => c2 (List.any_eq_true.mpr ⟨p, hp, decide_eq_true z⟩)
              rw [if_neg this]; rfl
            rw [hid]
      · have c2 : (L.any fun p => decide (p.1 = k)) = true := by simpa [e1] using c
        have := ih c2
        simp only [e1, if_false]
        by_cases e2 : p.1 = j
        · have : ¬ j = k := fun z => e1 (e2.trans z)
          simp [e2, this]
        · simp only [e2, decide_false]
          exact this
  · rename_i c
    unfold getA
    rw [List.find?_append]
    by_cases e2 : j = k
    · subst e2
      have : L.find? (fun p => decide (p.1 = j)) = none := List.find?_eq_none.mpr fun p hp z => c (List.any_eq_true.mpr ⟨p, hp, z⟩)
      rw [this]
      simp
    · have : ¬ k = j := fun z => e2 z.symm
      simp [this, e2]
theorem getA_some {L : AL} {k : Int} : (getA L k).isSome = true ↔ k ∈ L.map (·.1) := by
  unfold getA
  rw [Option.isSome_map, List.find?_isSome]
  constructor
  · rintro ⟨p, hp, e⟩
    exact List.mem_map.mpr ⟨p, hp, of_decide_eq_true e⟩
  · intro h
    obtain ⟨p, hp, e⟩ := List.mem_map.mp h
    exact ⟨p, hp, decide_eq_true e⟩
theorem getA_mem {L : AL} (h : (L.map (·.1)).Nodup) {k : Int} {v : D} : (k, v) ∈ L ↔ getA L k = some v := by
  unfold getA
  induction L with
  | nil => simp
  | cons p L ih =>
    rw [List.map_cons, List.nodup_cons] at h
    rw [List.find?_cons]
    by_cases e : p.1 = k
    · subst e
      simp only [decide_true, Option.map_some, Option.some.injEq, List.mem_cons]
      constructor
      · rintro (z | z)
        · rw [← z]
        · exact absurd (List.mem_map.mpr ⟨_, z, rfl⟩) h.1
      · intro z
        exact .inl (by rw [← z])
    · simp only [e, decide_false, List.mem_cons]
      rw [← ih h.2]
      constructor
      · rintro (z | z)
        · exact absurd (by rw [← z]) e
        · exact z
      · exact .inr
section
variable {s : S} {i : Nat} {mk mv mz m : M DB}
@[simp] theorem ok_dgetM {Q : DB → S → Prop} : Ok (dgetM i mk) s Q = PeekQ (fun _ => Ok mk s fun y s1 => PeekQ (fun d => Ok (lift (dgetD d y.1)) s1 Q) s1.env[i]?) s.env[i]? := by
  unfold dgetM; rw [ok_bind, ok_peek]; congr; funext _; rw [ok_bind]; congr; funext y s1; rw [ok_bind, ok_peek]
@[simp] theorem ok_dget1M {Q : DB → S → Prop} : Ok (dget1M i mk) s Q = PeekQ (fun d0 => Ok (lift (isDD d0)) s fun _ s0 => Ok mk s0 fun y s1 => PeekQ (fun d => Ok (lift (dget1D d y.1)) s1 Q) s1.env[i]?) s.env[i]? := by
  unfold dget1M; rw [ok_bind, ok_peek]; congr; funext d0; rw [ok_bind]; congr; funext _ s0; rw [ok_bind]; congr; funext y s1; rw [ok_bind, ok_peek]
@[simp] theorem ok_dget2M {Q : DB → S → Prop} : Ok (dget2M i mk mz) s Q = PeekQ (fun d0 => Ok (lift (isDD d0)) s fun _ s0 => Ok mk s0 fun y s1 => Ok mz s1 fun z s2 => PeekQ (fun d => Ok (lift (dget2D d y.1 z.1)) s2 Q) s2.env[i]?) s.env[i]? := by
  unfold dget2M; rw [ok_bind, ok_peek]; congr; funext d0; rw [ok_bind]; congr; funext _ s0; rw [ok_bind]; congr; funext y s1; rw [ok_bind]; congr; funext z s2; rw [ok_bind, ok_peek]
@[simp] theorem ok_dinMA {f : Bool → Bool} {Q : DB → S → Prop} : Ok (dinM f i mk) s Q = Ok mk s fun y s1 => PeekQ (fun d => Ok (lift (dinD f d y.1)) s1 Q) s1.env[i]? := by
  unfold dinM; rw [ok_bind]; congr; funext y s1; rw [ok_bind, ok_peek]
def DputQ (i : Nat) (v : DB) (Q : Fl → S → Prop) (s : S) (y : DB) : Option (Option DB) → Prop
  | some (some (.dct ks ds, true)) => (match keyOf y.1 with
      | some k => ks.length < sizeLine ∧ Q .nx { s with env := s.env.set i (some (.dct (putKs ks k) (putDs ks ds k v.1), true)) }
      | none => False)
  | _ => False
@[simp] theorem ok_dputM {Q : Fl → S → Prop} : Ok (dputM i mk mv) s Q = Ok mv s fun v s1 => PeekQ (fun _ => Ok mk s1 fun y s2 => DputQ i v Q s2 y s2.env[i]?) s1.env[i]? := by
  unfold dputM
  rw [ok_bind]; congr; funext v s1; rw [ok_bind, ok_peek]; congr; funext _; refine (ok_bind (m := mk)).trans ?_; congr; funext y s2
  unfold Ok DputQ
  dsimp only
  rcases s2.env[i]? with _ | _ | ⟨d, b⟩
  · rfl
  · rfl
  · cases d with
    | dct ks ds =>
      cases b with
      | false => rfl
      | true =>
        dsimp only
        cases keyOf y.1 with
        | none => rfl
        | some k =>
          dsimp only
          by_cases c : ks.length < sizeLine
          · rw [if_pos c]; simp only [c, true_and]
          · rw [if_neg c]; simp only [c, false_and]
    | _ => rfl
@[simp] theorem dputQ_A {v : DB} {Q : Fl → S → Prop} {L : AL} {k : Int} {b : Bool} : DputQ i v Q s (.int k, b) (some (some (dctD L, true))) = (L.length < sizeLine ∧ Q .nx { s with env := s.env.set i (some (dctD (putA L k v.1), true)) }) := by
  show ((ksA L).length < sizeLine ∧ Q .nx { s with env := s.env.set i (some (.dct (putKs (ksA L) (.inl k)) (putDs (ksA L) (dsA L) (.inl k) v.1), true)) }) = _
  rw [ksA_len, putKs_A L k v.1, putDs_A]; rfl
@[simp] theorem isDD_A {L : AL} : isDD (dctD L) = some (.non, false) := rfl
theorem dgetD_A {L : AL} {k : Int} : dgetD (dctD L) (.int k) = (getA L k).map fun d => (d, false) := by
  show (lookD (ksA L) (dsA L) (.inl k)).map _ = _
  rw [lookD_A]
@[simp] theorem dget1D_A {L : AL} {k : Int} : dget1D (dctD L) (.int k) = some ((getA L k).getD .non, false) := by
  show some ((lookD (ksA L) (dsA L) (.inl k)).getD .non, false) = _
  rw [lookD_A]
@[simp] theorem dget2D_A {L : AL} {k : Int} {z : D} : dget2D (dctD L) (.int k) z = some ((getA L k).getD z, false) := by
  show some ((lookD (ksA L) (dsA L) (.inl k)).getD z, false) = _
  rw [lookD_A]
@[simp] theorem dinD_A {f : Bool → Bool} {L : AL} {k : Int} : dinD f (dctD L) (.int k) = some (.bl (f (getA L k).isSome), false) := by
  show some (D.bl (f (lookD (ksA L) (dsA L) (.inl k)).isSome), false) = _
  rw [lookD_A]
theorem dnew_A : D.dct [] [] = dctD [] := rfl
@[simp] theorem ok_rngI3 {mr : M (List D)} {Q : List D → S → Prop} : Ok (rngI3 mr) s Q = Ok mr s fun ds s1 => Ok (lift (rg3L ds)) s1 Q := by
  unfold rngI3; rw [ok_bind]
def AugdQ (i : Nat) (Q : Fl → S → Prop) (s : S) : D → D → Prop
  | .int a, .int b => okDiv b ∧ i < s.env.length ∧ Q .nx { s with env := s.env.set i (some (.int (a / b), false)) }
  | _, _ => False
@[simp] theorem ok_augdM {Q : Fl → S → Prop} : Ok (augdM i m) s Q = PeekQ (fun d => Ok m s fun t s1 => AugdQ i Q s1 d t.1) s.env[i]? := by
  unfold augdM
  rw [ok_bind, ok_peek]; congr; funext d; rw [ok_bind]; congr; funext t s1
  obtain ⟨d2, f2⟩ := t
  cases d with
  | int a =>
    cases d2 with
    | int b =>
      dsimp only [AugdQ]
      by_cases c : okDiv b
      · rw [if_pos c, ok_putv]; simp only [c, true_and]
      · rw [if_neg c, ok_lift_none]; simp only [c, false_and]
    | _ => exact ok_lift_none
  | _ => exact ok_lift_none
@[simp] theorem augdQ_i {Q : Fl → S → Prop} {a b : Int} : AugdQ i Q s (.int a) (.int b) = (okDiv b ∧ i < s.env.length ∧ Q .nx { s with env := s.env.set i (some (.int (a / b), false)) }) := rfl
@[simp] theorem ok_dlenM {Q : DB → S → Prop} : Ok (dlenM i) s Q = PeekQ (fun d => Ok (lift (dlenD d)) s Q) s.env[i]? := by
  unfold dlenM; rw [ok_bind, ok_peek]
@[simp] theorem dlenD_A {L : AL} : dlenD (dctD L) = some (.int (L.length : Int), false) := by
  show some (D.int ((ksA L).length : Int), false) = _
  rw [ksA_len]
theorem ok_itemsA {L : AL} {Q : List D → S → Prop} (h : s.env[i]? = some (some (dctD L, false))) : Ok (itemsM i) s Q = Q (L.map fun p => .tup [.int p.1, p.2]) s := by
  unfold itemsM
  rw [ok_dctM (ks := ksA L) (ds := dsA L) h, zipA, List.map_map]; rfl
theorem ok_keysA {L : AL} {Q : List D → S → Prop} (h : s.env[i]? = some (some (dctD L, false))) : Ok (keysM i) s Q = Q (L.map fun p => .int p.1) s := by
  unfold keysM
  rw [ok_dctM (ks := ksA L) (ds := dsA L) h]
  unfold ksA
  rw [List.map_map]; rfl
end
section
variable {g g1 : D → M Unit} {tt : M Bool} {tk tv : M DB} {mi mi1 : M (List D)} {vs vs1 : List Nat} {s : S} {α β : Type}
/-- puts in turn -/
def putsA (L : AL) (xs : List (Int × D)) : AL := xs.foldl (fun L p => putA L p.1 p.2) L
theorem putsA_len (L : AL) (xs : List (Int × D)) : (putsA L xs).length ≤ L.length + xs.length := by
  induction xs generalizing L with
  | nil => simp [putsA]
  | cons p xs ih =>
    have := ih (putA L p.1 p.2)
    have := putA_len L p.1 p.2
    show (putsA (putA L p.1 p.2) xs).length ≤ _
    simp only [List.length_cons]
    omega
theorem putsA_app (L : AL) (xs ys : List (Int × D)) : putsA L (xs ++ ys) = putsA (putsA L xs) ys := by unfold putsA; rw [List.foldl_append]
theorem putsA_nd {L : AL} (h : (L.map (·.1)).Nodup) : ∀ xs : List (Int × D), ((putsA L xs).map (·.1)).Nodup := fun xs => by
  induction xs generalizing L with
  | nil => exact h
  | cons p xs ih => exact ih (putA_nd h)
theorem putsA_mem {j : Int} : ∀ {xs : List (Int × D)} {L : AL}, j ∈ (putsA L xs).map (·.1) ↔ j ∈ L.map (·.1) ∨ j ∈ xs.map (·.1)
  | [], L => by simp [putsA]
  | p :: xs, L => by
    show j ∈ (putsA (putA L p.1 p.2) xs).map (·.1) ↔ _
    rw [putsA_mem, putA_mem, List.map_cons, List.mem_cons, or_assoc]
/-- where one value only is put to a key, that is told -/
theorem putsA_get {k : Int} {v : D} : ∀ {xs : List (Int × D)} {L : AL}, (∀ p ∈ xs, p.1 = k → p.2 = v) → (k ∈ xs.map (·.1) ∨ getA L k = some v) → getA (putsA L xs) k = some v
  | [], L, _, h => by
    rcases h with h | h
    · cases h
    · exact h
  | p :: xs, L, hu, h => by
    show getA (putsA (putA L p.1 p.2) xs) k = some v
    refine putsA_get (fun q hq => hu q (List.mem_cons_of_mem _ hq)) ?_
    by_cases e : p.1 = k
    · refine .inr ?_
      rw [getA_put, if_pos e.symm, hu p List.mem_cons_self e]
    · rw [getA_put, if_neg fun z => e z.symm]
      rcases h with h | h
      · rw [List.map_cons, List.mem_cons] at h
        exact .inl (h.resolve_left fun z => e z.symm)
      · exact .inr h
/-- a dict comprehension that draws nothing, begun with L -/
theorem dcL_puts {xs : List α} {f : α → D} (p : α → Bool) (k : α → Int) (h : α → D) (L : AL) (hz : L.length + xs.length ≤ sizeLine)
    (hs : ∀ x ∈ xs, Ok (g (f x)) ⟨wipeE s.env vs, s.st⟩ fun _ s1 => Ok tt s1 fun b s2 => b = p x ∧ if p x = true then Ok tk s2 fun y s3 => Ok tv s3 fun z s4 => y.1 = .int (k x) ∧ z.1 = h x ∧ s4.st = s.st ∧ wipeE s4.env vs = wipeE s.env vs else s2.st = s.st ∧ wipeE s2.env vs = wipeE s.env vs)
    {Q : List L2.Key × List D → S → Prop} (hQ : ∀ E, wipeE E vs = wipeE s.env vs → Q (ksA (putsA L ((xs.filter p).map fun x => (k x, h x))), dsA (putsA L ((xs.filter p).map fun x => (k x, h x)))) ⟨E, s.st⟩) : Ok (dcL g tt tk tv vs (xs.map f) (ksA L) (dsA L)) s Q := by
  have key : ∀ (ys : List α) (L : AL) (e : Ev), (∀ y ∈ ys, y ∈ xs) → L.length + ys.length ≤ sizeLine → wipeE e vs = wipeE s.env vs →
      (∀ E, wipeE E vs = wipeE s.env vs → Q (ksA (putsA L ((ys.filter p).map fun x => (k x, h x))), dsA (putsA L ((ys.filter p).map fun x => (k x, h x)))) ⟨E, s.st⟩) → Ok (dcL g tt tk tv vs (ys.map f) (ksA L) (dsA L)) ⟨e, s.st⟩ Q := by
    intro ys
    induction ys with
    | nil =>
      intro L e _ _ he hq
      rw [List.map_nil, ok_dcL_nil]
      exact hq e he
    | cons y ys ih =>
      intro L e hm hl he hq
      rw [List.map_cons, ok_dcL_cons]
      show Ok (g (f y)) ⟨wipeE e vs, s.st⟩ _
      rw [he]
      simp only [List.length_cons] at hl
      refine (hs y (hm y List.mem_cons_self)).mono fun _ s1 h1 => h1.mono fun b s2 h2 => ?_
      obtain ⟨rfl, h2⟩ := h2
      by_cases c : p y = true
      · simp only [c, if_true] at h2 ⊢
        refine h2.mono fun yy s3 h3 => h3.mono fun zz s4 h4 => ?_
        obtain ⟨e1, e2, e3, e4⟩ := h4
        rw [e1, e2]
        refine ⟨by rw [ksA_len]; omega, ?_⟩
        rw [putKs_A L (k y) (h y), putDs_A]
        obtain ⟨E4, st4⟩ := s4
        cases e3
        refine ih (putA L (k y) (h y)) E4 (fun z hz => hm z (List.mem_cons_of_mem _ hz)) (by have := putA_len L (k y) (h y); omega) e4 fun E hE => ?_
        have := hq E hE
        rw [List.filter_cons, if_pos c, List.map_cons] at this
        exact this
      · simp only [c, if_false] at h2 ⊢
        obtain ⟨E2, st2⟩ := s2
        obtain ⟨e3, e4⟩ := h2
        cases e3
        refine ih L E2 (fun z hz => hm z (List.mem_cons_of_mem _ hz)) (by omega) e4 fun E hE => ?_
        have := hq E hE
        rw [List.filter_cons, if_neg c] at this
        exact this
  exact key xs L s.env (fun _ h => h) hz rfl fun E hE => hQ E hE
@[simp] theorem ok_dc2M {tt1 : M Bool} {Q : DB → S → Prop} : Ok (dc2M mi g tt mi1 g1 tt1 tk tv vs vs1) s Q = Ok mi s fun ds s1 => freeE s1.env vs = true ∧ Ok (dc2L g tt mi1 g1 tt1 tk tv vs vs1 ds [] []) s1 fun r s2 => Q (.dct r.1 r.2, true) { s2 with env := restE s1.env s2.env vs } := by
  refine (ok_bind (m := mi)).trans ?_
  congr; funext ds s1
  by_cases h : freeE s1.env vs = true
  · unfold Ok
    simp only [h, if_true, true_and]
    cases dc2L g tt mi1 g1 tt1 tk tv vs vs1 ds [] [] s1 with
    | ok r s2 => rfl
    | _ => first | rfl | (unfold Ok; rfl)
  · unfold Ok
    simp [h]
end
end L2.Pd
set_option maxHeartbeats 4000000
namespace L2.Pd
open PySem PySem.Spec PyProof.Rows
theorem wipeE_sub2 {e e' : Ev} {vs vs1 : List Nat} (h : wipeE e vs1 = wipeE e' vs1) (hv : ∀ j ∈ vs1, j ∈ vs) : wipeE e vs = wipeE e' vs := by
  have hl : e.length = e'.length := by have := congrArg List.length h; rwa [wipeE_len, wipeE_len] at this
  refine List.ext_getElem? fun j => ?_
  by_cases hj : j ∈ vs
  · by_cases hlt : j < e.length
    · rw [wipeE_in hlt hj, wipeE_in (by omega) hj]
    · rw [List.getElem?_eq_none (by rw [wipeE_len]; omega), List.getElem?_eq_none (by rw [wipeE_len]; omega)]
  · rw [wipeE_out hj, wipeE_out hj, ← wipeE_out (e := e) (vs := vs1) fun z => hj (hv j z), h, wipeE_out fun z => hj (hv j z)]
section
variable {g g1 : D → M Unit} {tt tt1 : M Bool} {tk tv : M DB} {mi1 : M (List D)} {vs vs1 : List Nat} {s : S} {α β : Type}
theorem ok_dc2L_nil {ks : List L2.Key} {ds : List D} {Q : List L2.Key × List D → S → Prop} : Ok (dc2L g tt mi1 g1 tt1 tk tv vs vs1 [] ks ds) s Q = Q (ks, ds) s := by
  unfold dc2L; exact ok_pure
theorem ok_dc2L_cons {x : D} {xs : List D} {ks : List L2.Key} {ds : List D} {Q : List L2.Key × List D → S → Prop} : Ok (dc2L g tt mi1 g1 tt1 tk tv vs vs1 (x :: xs) ks ds) s Q =
    Ok (g x) { s with env := wipeE s.env vs } fun _ s1 => Ok tt s1 fun b s2 => if b = true then Ok mi1 s2 fun es s3 => Ok (dcL g1 tt1 tk tv vs1 es ks ds) s3 fun r s4 => Ok (dc2L g tt mi1 g1 tt1 tk tv vs vs1 xs r.1 r.2) s4 Q else Ok (dc2L g tt mi1 g1 tt1 tk tv vs vs1 xs ks ds) s2 Q := by
  show Ok (wipeM vs >>= _) s Q = _
  rw [ok_bind, ok_wipeM, ok_bind]; congr; funext _ s1; rw [ok_bind]; congr; funext b s2
  cases b with
  | false => rfl
  | true =>
    simp only [if_true]
    rw [ok_bind]; congr; funext es s3; rw [ok_bind]
theorem dc2L_puts {xs : List α} {f : α → D} (p : α → Bool) (es : α → List β) (f1 : α → β → D) (k : α → β → Int) (h : α → β → D) (hv : ∀ j ∈ vs1, j ∈ vs) (L : AL) (hz : L.length + (xs.map fun x => (es x).length).sum ≤ sizeLine)
    (hs : ∀ x ∈ xs, Ok (g (f x)) ⟨wipeE s.env vs, s.st⟩ fun _ s1 => Ok tt s1 fun b s2 => b = p x ∧ if p x = true then Ok mi1 s2 fun ds s3 => ds = (es x).map (f1 x) ∧ s3.st = s.st ∧ wipeE s3.env vs = wipeE s.env vs ∧
      (∀ b ∈ es x, Ok (g1 (f1 x b)) ⟨wipeE s3.env vs1, s.st⟩ fun _ s4 => Ok tk s4 fun y s5 => Ok tv s5 fun z s6 => y.1 = .int (k x b) ∧ z.1 = h x b ∧ s6.st = s.st ∧ wipeE s6.env vs1 = wipeE s3.env vs1) else s2.st = s.st ∧ wipeE s2.env vs = wipeE s.env vs)
    {Q : List L2.Key × List D → S → Prop} (hQ : ∀ E, wipeE E vs = wipeE s.env vs → Q (ksA (putsA L ((xs.filter p).flatMap fun x => (es x).map fun b => (k x b, h x b))), dsA (putsA L ((xs.filter p).flatMap fun x => (es x).map fun b => (k x b, h x b)))) ⟨E, s.st⟩) :
    Ok (dc2L g tt mi1 g1 noT tk tv vs vs1 (xs.map f) (ksA L) (dsA L)) s Q := by
  have key : ∀ (ys : List α) (L : AL) (e : Ev), (∀ y ∈ ys, y ∈ xs) → L.length + (ys.map fun x => (es x).length).sum ≤ sizeLine → wipeE e vs = wipeE s.env vs →
      (∀ E, wipeE E vs = wipeE s.env vs → Q (ksA (putsA L ((ys.filter p).flatMap fun x => (es x).map fun b => (k x b, h x b))), dsA (putsA L ((ys.filter p).flatMap fun x => (es x).map fun b => (k x b, h x b)))) ⟨E, s.st⟩) → Ok (dc2L g tt mi1 g1 noT tk tv vs vs1 (ys.map f) (ksA L) (dsA L)) ⟨e, s.st⟩ Q := by
    intro ys
    induction ys with
    | nil =>
      intro L e _ _ he hq
      rw [List.map_nil, ok_dc2L_nil]
      exact hq e he
    | cons y ys ih =>
      intro L e hm hl he hq
      rw [List.map_cons, ok_dc2L_cons]
      show Ok (g (f y)) ⟨wipeE e vs, s.st⟩ _
      rw [he]
      simp only [List.map_cons, List.sum_cons] at hl
      refine (hs y (hm y List.mem_cons_self)).mono fun _ s1 h1 => h1.mono fun b s2 h2 => ?_
      obtain ⟨rfl, h2⟩ := h2
      by_cases c : p y = true
      · simp only [c, if_true] at h2 ⊢
        refine h2.mono fun ds s3 h3 => ?_
        obtain ⟨rfl, e3, e4, h4⟩ := h3
        obtain ⟨E3, st3⟩ := s3
        cases e3
        refine dcL_puts (s := ⟨E3, s.st⟩) (fun _ => true) (k y) (h y) L (by omega) (fun b hb => (h4 b hb).mono fun _ s4 h5 => ?_) fun E hE => ?_
        · unfold noT
          rw [ok_pure]
          refine ⟨rfl, ?_⟩
          rw [if_pos rfl]
          exact h5
        · have fl : (es y).filter (fun _ => true) = es y := List.filter_eq_self.mpr fun _ _ => rfl
          rw [fl]
          refine ih _ E (fun z hz => hm z (List.mem_cons_of_mem _ hz)) ?_ ((wipeE_sub2 hE hv).trans e4) fun E' hE' => ?_
          · have := putsA_len L ((es y).map fun b => (k y b, h y b))
            rw [List.length_map] at this
            omega
          · have := hq E' hE'
            rw [List.filter_cons, if_pos c, List.flatMap_cons, putsA_app] at this
            exact this
      · simp only [c, if_false] at h2 ⊢
        obtain ⟨E2, st2⟩ := s2
        obtain ⟨e3, e4⟩ := h2
        cases e3
        refine ih L E2 (fun z hz => hm z (List.mem_cons_of_mem _ hz)) (by omega) e4 fun E hE => ?_
        have := hq E hE
        rw [List.filter_cons, if_neg c] at this
        exact this
  exact key xs L s.env (fun _ h => h) hz rfl fun E hE => hQ E hE
end
end L2.Pd
set_option maxHeartbeats 1000000
namespace L2.Pd
open PySem PySem.Spec PyProof.Rows
section
variable {s : S} {mo me ma mb : M DB}
@[simp] theorem ok_joinM {Q : DB → S → Prop} : Ok (joinM mo me) s Q = Ok mo s fun x s1 => Ok (lift (isStrD x.1)) s1 fun _ s2 => Ok me s2 fun y s3 => Ok (lift (joinD x.1 y.1)) s3 Q := by
  unfold joinM; rw [ok_bind]; congr; funext _ _; rw [ok_bind]; congr; funext _ _; rw [ok_bind]
@[simp] theorem ok_splitM {Q : DB → S → Prop} : Ok (splitM mo me) s Q = Ok mo s fun x s1 => Ok (lift (isStrD x.1)) s1 fun _ s2 => Ok me s2 fun y s3 => Ok (lift (splitD x.1 y.1)) s3 Q := by
  unfold splitM; rw [ok_bind]; congr; funext _ _; rw [ok_bind]; congr; funext _ _; rw [ok_bind]
@[simp] theorem isStrD_s {x : Str} : isStrD (.str x) = some (.non, false) := rfl
@[simp] theorem ok_fs3M {z : Str} {Q : DB → S → Prop} : Ok (fs3M z ma mb) s Q = Ok ma s fun x s1 => Ok mb s1 fun y s2 => Ok (lift (fs3D z x.1 y.1)) s2 Q := by
  unfold fs3M; rw [ok_bind]; congr; funext _ _; rw [ok_bind]
def StrQ (Q : List D → Prop) : D → Prop
  | .str a => Q (a.cps.toList.map fun c => D.str ⟨#[c]⟩)
  | _ => False
@[simp] theorem strQ_s {Q : List D → Prop} {a : Str} : StrQ Q (.str a) = Q (a.cps.toList.map fun c => D.str ⟨#[c]⟩) := rfl
@[simp] theorem ok_strI {Q : List D → S → Prop} : Ok (strI ma) s Q = Ok ma s fun x s1 => StrQ (fun r => Q r s1) x.1 := by
  unfold strI; rw [ok_bind]; congr; funext x s1
  obtain ⟨d, b⟩ := x
  cases d <;> (first | rfl | (unfold Ok; rfl))
theorem strsOf_map : ∀ ys : List Str, strsOf (ys.map D.str) = some ys
  | [] => rfl
  | y :: ys => by simp only [List.map_cons, strsOf, strsOf_map ys, Option.map_some]
theorem strsOf_as {α : Type} (xs : List α) (f : α → Str) : strsOf (xs.map fun x => D.str (f x)) = some (xs.map f) := by
  have := strsOf_map (xs.map f)
  rwa [List.map_map] at this
@[simp] theorem addD_str {a b : Str} : addD [.str a, .str b] = if a.length + b.length ≤ sizeLine then some (.str (a ++ b), false) else none := rfl
@[simp] theorem isi_ss {x : Str} : isiD [.str x, .ty "str"] = some (.bl true, false) := rfl
@[simp] theorem truD_str {x : Str} : truD (.str x) = if x.length ≤ sizeLine then some ((x.length : Int) != 0) else none := rfl
@[simp] theorem isNonD_str {x : Str} : isNonD (.str x) = false := rfl
/-- the text of a number -/
def nS (n : Nat) : Str := Str.ofString (toString ((n : Nat) : Int))
theorem nS_tl (n : Nat) : TL.tl (nS n) = TL.numL n := TL.tl_num n
theorem nS_len {n k : Nat} (hk : 0 < k) (h : n < 10 ^ k) : (nS n).length ≤ k := by
  rw [TL.len_tl, nS_tl]; exact TL.numL_len hk h
theorem empty_app (x : Str) : Str.empty ++ x = x := TL.ext_tl (by rw [TL.tl_append]; rfl)
theorem strD_n {n k : Nat} (hk : 0 < k) (hk2 : k ≤ 1900) (h : n < 2 ^ k) : strD [.int (n : Int)] = some (.str (nS n), false) := by
  show (if ((n : Nat) : Int).natAbs.log2 < 1920 then some (D.str (Str.ofString (toString ((n : Nat) : Int))), false) else none) = _
  rw [if_pos (Nat.lt_of_lt_of_le (log2_lt (k := k) (by simpa using h) hk) (by omega))]
  rfl
theorem joinL_len (S : List Nat) : ∀ ps : List (List Nat), (TL.joinL S ps).length ≤ (ps.map (·.length)).sum + ps.length * S.length
  | [] => by simp [TL.joinL]
  | [p] => by simp [TL.joinL]
  | p :: q :: r => by
    have ih := joinL_len S (q :: r)
    have e : (p :: q :: r).length * S.length = S.length + (q :: r).length * S.length := by
      rw [List.length_cons, Nat.add_mul]; omega
    rw [e, List.map_cons, List.sum_cons]
    show (p ++ (S ++ TL.joinL S (q :: r))).length ≤ _
    rw [List.length_append, List.length_append]
    omega
theorem joinL_snoc {S p : List Nat} : ∀ {l : List (List Nat)}, l ≠ [] → TL.joinL S (l ++ [p]) = TL.joinL S l ++ (S ++ p)
  | [], h => absurd rfl h
  | [q], _ => rfl
  | q :: r :: l, _ => by
    show q ++ (S ++ TL.joinL S ((r :: l) ++ [p])) = (q ++ (S ++ TL.joinL S (r :: l))) ++ (S ++ p)
    rw [joinL_snoc (by simp)]
    simp
theorem joinL_ne {S : List Nat} : ∀ {l : List (List Nat)}, l ≠ [] → (∀ p ∈ l, p ≠ []) → TL.joinL S l ≠ []
  | [], h, _ => absurd rfl h
  | [q], _, h => h q (by simp)
  | q :: r :: l, _, h => fun e => by
    have e : q ++ (S ++ TL.joinL S (r :: l)) = [] := e
    exact h q (by simp) (List.append_eq_nil_iff.mp e).1
theorem join_tlL (y : Str) (ps : List Str) : TL.tl (Txt.join y ps) = TL.joinL (TL.tl y) (ps.map TL.tl) := by
  rw [TL.join_eq, TL.tl_join]
theorem join_len (y : Str) (ps : List Str) : (Txt.join y ps).length ≤ (ps.map (·.length)).sum + ps.length * y.length := by
  rw [TL.len_tl, join_tlL]
  have := joinL_len (TL.tl y) (ps.map TL.tl)
  rw [List.map_map, List.length_map, ← TL.len_tl] at this
  have e : (List.length ∘ TL.tl : Str → Nat) = fun x => x.length := funext fun x => (TL.len_tl x).symm
  rw [e] at this
  exact this
theorem join_snoc {y p : Str} {l : List Str} (h : l ≠ []) : Txt.join y (l ++ [p]) = Txt.join y l ++ y ++ p := by
  refine TL.ext_tl ?_
  rw [join_tlL, TL.tl_append, TL.tl_append, join_tlL, List.map_append]
  rw [show [p].map TL.tl = [TL.tl p] from rfl, joinL_snoc (by simpa using h), List.append_assoc]
theorem join_one {y p : Str} : Txt.join y [p] = p := TL.ext_tl (by rw [join_tlL]; rfl)
theorem join_nil {y : Str} : Txt.join y [] = Str.empty := TL.ext_tl (by rw [join_tlL]; rfl)
theorem sum_le {α : Type} (f : α → Nat) (k : Nat) : ∀ xs : List α, (∀ x ∈ xs, f x ≤ k) → (xs.map f).sum ≤ xs.length * k
  | [], _ => by simp
  | x :: xs, h => by
    have h1 := h x (by simp)
    have h2 := sum_le f k xs fun y hy => h y (by simp [hy])
    rw [List.map_cons, List.sum_cons, List.length_cons, Nat.add_mul]
    omega
theorem numL_head {n : Nat} : 0 < n → ∃ c l, TL.numL n = c :: l ∧ c ≠ 48 := by
  induction n using Nat.strongRecOn with
  | _ n ih =>
    intro h
    by_cases h1 : n < 10
    · exact ⟨48 + n, [], TL.numL_lt h1, by omega⟩
    · obtain ⟨c, l, e, hc⟩ := ih (n / 10) (by omega) (by omega)
      exact ⟨c, l ++ [48 + n % 10], by rw [TL.numL_step (by omega), e]; rfl, hc⟩
end
end L2.Pd
set_option maxHeartbeats 1000000
namespace L2.Pd.K23
open PySem PySem.Spec PyProof.Rows L2 L2.Pd
theorem take_ok {n : Nat} {m : Int} {st : List (List Int)} (h : PS n st) (h0 : 0 < m) (h1 : m < 2 ^ 400) : FOk f__law_take [.box n, .int m] st fun t st' => PS n st' ∧ IntIn m t := by
  obtain ⟨s, d, c, e, p0, p1, p2⟩ := h
  have hl : n < st.length := (List.getElem?_eq_some_iff.mp e).1
  unfold f__law_take b__law_take
  rw [fok_mk]
  refine ⟨rfl, ?_⟩
  simp [e, get_set e]
  have hs : 0 ≤ s % 50021 ∧ s % 50021 < 50021 := ⟨Int.emod_nonneg _ (by decide), Int.emod_lt_of_pos _ (by decide)⟩
  have hm : ∀ x : Int, 0 ≤ x % 1000000021 ∧ x % 1000000021 < 1000000021 := fun x => ⟨Int.emod_nonneg _ (by decide), Int.emod_lt_of_pos _ (by decide)⟩
  refine ⟨okMul_r (by omega) (by omega), okMul_l (by decide) (by decide), ?_⟩
  have q := hm (s * (s % 50021 + 20011) + 60013 * (c + 1) + 5)
  split
  · exact ⟨h0, okDiv_w h0 h1, PS.set hl q.1 q.2 (Int.ediv_nonneg p2 (by omega)), _, rfl, Int.emod_nonneg _ (by omega), Int.emod_lt_of_pos _ h0⟩
  · exact ⟨okDiv_of (by decide) (by decide), h0, PS.set hl q.1 q.2 p2, _, rfl, Int.emod_nonneg _ (by omega), Int.emod_lt_of_pos _ h0⟩
theorem purse_ok {v : Int} {st : List (List Int)} : FOk f__law_purse [.int v] st fun t st' => ∃ n, t = (.box n, false) ∧ PS n st' := by
  unfold f__law_purse b__law_purse
  rw [fok_mk]
  refine ⟨rfl, ?_⟩
  have hm : 0 ≤ v % 1000000021 ∧ v % 1000000021 < 1000000021 := ⟨Int.emod_nonneg _ (by decide), Int.emod_lt_of_pos _ (by decide)⟩
  have hp : okPow 10 18 := ⟨by decide, by decide, by decide⟩
  simp [hp]
  have fin : ∀ d : Int, 0 ≤ d → PS st.length (st ++ [[v % 1000000021, d, 0]]) := fun d h => ⟨v % 1000000021, d, 0, by simp, hm.1, hm.2, h⟩
  split
  · exact fin _ (by omega)
  · split
    · exact fin _ (by omega)
    · exact fin _ (by omega)
theorem cell_ok {ns : List Int} {k : Int} {st : List (List Int)} (h0 : 0 ≤ k) (h1 : k < 64) : FOk f__law_cell [.lst (ns.map D.int), .int k] st fun t _ => ∃ v, t = (.int v, false) := by
  unfold f__law_cell b__law_cell
  rw [fok_mk]
  refine ⟨rfl, ?_⟩
  simp
  split
  · rename_i c
    obtain ⟨d, e, hd⟩ := atI_get (xs := ns.map D.int) h0 (by simpa using c)
    exact ⟨d, e, ints_mem hd⟩
  · refine ⟨okMul_r (by omega) (by omega), okMul_r (by omega) (by omega), okMul_l (by decide) (by decide), ?_⟩
    refine ok_forL (fun _ s => ∃ v o, s = ⟨[some (.lst (ns.map D.int), false), some (.int k, false), some (.int v, false), o], st⟩) _ ⟨_, _, rfl⟩ ?_ ?_
    · rintro i d s hd ⟨v, o, rfl⟩
      rw [cut_take (by decide)] at hd
      obtain ⟨w, rfl⟩ := ints_mem (List.mem_of_mem_take (List.mem_of_getElem? hd))
      simp
      exact okMul_r (by decide) (by decide)
    · rintro s ⟨v, o, rfl⟩
      simp
def Cl (m : Int) (d : D) : Prop := ∃ a b : Int, d = .tup [.int a, .int b] ∧ 0 ≤ a ∧ a < b ∧ b ≤ m
theorem classes_ok {n : Nat} {m : Int} {st : List (List Int)} (h : PS n st) (h0 : 0 ≤ m) (h1 : m ≤ 64) : FOk f__law_classes [.box n, .int m] st fun t st' => PS n st' ∧ ∃ ds, t = (.lst ds, true) ∧ 1 ≤ ds.length ∧ ds.length ≤ 1 + 2 * m.toNat ∧ ∀ d ∈ ds, Cl 24 d := by
  unfold f__law_classes b__law_classes
  rw [fok_mk]
  refine ⟨rfl, ?_⟩
  simp
  refine ⟨small62_of (by omega) (by omega), ?_⟩
  refine ok_forL (fun i s => ∃ st ds x3 x4 x5 x6 x7 x8, s = ⟨[some (.box n, false), some (.int m, false), some (.lst ds, true), x3, x4, x5, x6, x7, x8, none], st⟩ ∧ PS n st ∧ 1 ≤ ds.length ∧ ds.length ≤ 1 + 2 * i ∧ ∀ d ∈ ds, Cl 24 d) _
    ⟨_, _, _, _, _, _, _, _, rfl, h, by decide, by decide, fun d hd => ?_⟩ ?_ ?_
  · rw [List.mem_singleton.mp hd]
    exact ⟨0, 1, rfl, by decide, by decide, by decide⟩
  · rintro i d s hd ⟨st, ds, x3, x4, x5, x6, x7, x8, rfl, hP, l1, l2, hC⟩
    obtain ⟨rfl, hi⟩ := range_get hd
    simp
    refine (take_ok hP (by omega) (by omega)).mono ?_
    rintro t st1 ⟨hP1, at_, rfl, a0, a1⟩
    refine (take_ok hP1 (by omega) (by omega)).mono ?_
    rintro t st2 ⟨hP2, cut, rfl, c0, c1⟩
    simp
    obtain ⟨d, e, hd⟩ := atI_get (xs := ds) a0 a1
    obtain ⟨a, b, rfl, p1, p2, p3⟩ := hC d hd
    refine ⟨_, e, ?_⟩
    simp
    have hbc : 0 < b * (2 + cut) := Int.mul_pos (by omega) (by omega)
    refine ⟨okMul_r (by omega) (by omega), hbc, ?_⟩
    split
    · rename_i hdv
      have hle : b * (2 + cut) ≤ 24 := Int.le_of_dvd (by decide) (Int.dvd_of_emod_eq_zero hdv)
      refine ⟨small62_of (by omega) (by omega), by simp [freeE], ?_⟩
      refine ok_lcL (fun j acc s => ∃ o, s = ⟨[some (.box n, false), some (.int m, false), some (.lst ds, true), some (.int i, false), some (.int at_, false), some (.int (2 + cut), false), some (.int a, false), some (.int b, false), x8, o], st2⟩ ∧ acc.length = j ∧ ∀ d ∈ acc, Cl 24 d) _ ⟨_, rfl, rfl, by simp⟩ ?_ ?_
      · rintro j d acc s hd ⟨o, rfl, la, hA⟩
        obtain ⟨rfl, hj⟩ := range_get hd
        simp [wipeE, la]
        refine ⟨okMul_r (by omega) (by omega), okMul_r (by omega) (by omega), fun d hd => ?_⟩
        rcases hd with hd | rfl
        · exact hA d hd
        · have h1 : b * ((j : Int) + 1) ≤ b * (2 + cut) := Int.mul_le_mul_of_nonneg_left (by omega) (by omega)
          have h2 : b * ((j : Int) + 1) = b * j + b := by rw [Int.mul_add, Int.mul_one]
          exact ⟨_, _, rfl, Int.add_nonneg p1 (Int.mul_nonneg (by omega) (by omega)), by omega, hle⟩
      · rintro acc s ⟨o, rfl, la, hA⟩
        simp at la
        simp [restE]
        rw [cut_take a0, cut_drop (by omega)]
        refine ⟨by omega, by simp; omega, by simp; omega, _, _, ⟨rfl, rfl⟩, hP2, ?_, ?_, ?_⟩
        · simp; omega
        · simp; omega
        · intro d hd
          simp at hd
          rcases hd with hd | hd | hd
          · exact hC d (List.mem_of_mem_take hd)
          · exact hC d (List.mem_of_mem_drop hd)
          · exact hA d hd
    · exact ⟨_, _, ⟨rfl, rfl⟩, hP2, l1, by omega, hC⟩
  · rintro s ⟨st, ds, x3, x4, x5, x6, x7, x8, rfl, hP, l1, l2, hC⟩
    simp at l2 ⊢
    exact ⟨hP, l1, l2, hC⟩
theorem single_ok {n : Nat} {m : Int} {st : List (List Int)} (h : PS n st) (h0 : 0 < m) (h1 : m ≤ 12) : FOk f__law_single_rule [.box n, .int m] st fun t st' => PS n st' ∧ ∃ d, t = (d, false) ∧ Rl d := by
  unfold f__law_single_rule b__law_single_rule
  rw [fok_mk]
  refine ⟨rfl, ?_⟩
  simp
  refine (take_ok h (by omega) (by omega)).mono ?_
  rintro t st1 ⟨hP1, sz, rfl, z0, z1⟩
  simp
  refine (classes_ok hP1 (by omega) (by omega)).mono ?_
  rintro t st2 ⟨hP2, rs, rfl, l1, l2, hC⟩
  simp at l2 ⊢
  obtain ⟨I, hI⟩ : ∃ I : Nat → S → Prop, ∀ k s, I k s ↔ ∃ ds x4 x5, s = ⟨[some (.box n, false), some (.int m, false), some (.int (1 + sz), false), some (.lst ds, true), x4, x5, none, none], st2⟩ ∧ k = (1 + sz - ds.length).toNat ∧ k ≤ 12 ∧ 1 ≤ ds.length ∧ ds.length ≤ 25 ∧ ∀ d ∈ ds, Cl (24 * 2 ^ (12 - k)) d := ⟨_, fun _ _ => Iff.rfl⟩
  refine ok_whileM I (1 + sz - rs.length).toNat ((hI _ _).mpr ⟨_, _, _, rfl, rfl, by omega, l1, by omega, fun d hd => ?_⟩) ?_
  · obtain ⟨a, b, e, p1, p2, p3⟩ := hC d hd
    have : (0 : Int) < 2 ^ (12 - (1 + sz - ↑rs.length).toNat) := Int.pow_pos (by decide)
    exact ⟨a, b, e, p1, p2, by omega⟩
  · intro k s hi
    obtain ⟨ds, x4, x5, rfl, hk, hk2, g1, g2, hC⟩ := (hI _ _).mp hi
    simp
    split
    · rename_i c
      refine pop_ex (by decide) (by omega) (by decide) fun d hd _ => ?_
      obtain ⟨a, b, rfl, p1, p2, p3⟩ := hC d hd
      simp
      have e2 : (2 : Int) ^ (12 - (k - 1)) = 2 * 2 ^ (12 - k) := by rw [show 12 - (k - 1) = (12 - k) + 1 by omega, Int.pow_succ]; omega
      have e3 : (0 : Int) < 2 ^ (12 - k) := Int.pow_pos (by decide)
      refine ⟨okMul_l (by decide) (by decide), by omega, k - 1, by omega, (hI _ _).mpr ⟨_, _, _, rfl, ?_, by omega, ?_, ?_, ?_⟩⟩
      · simp; omega
      · simp
      · simp; omega
      · intro d hd
        simp at hd
        rw [e2]
        rcases hd with hd | rfl | rfl
        · obtain ⟨a, b, e, p1, p2, p3⟩ := hC d (List.mem_of_mem_tail hd)
          exact ⟨a, b, e, p1, p2, by omega⟩
        · exact ⟨_, _, rfl, p1, by omega, by omega⟩
        · exact ⟨_, _, rfl, by omega, by omega, by omega⟩
    · rename_i c
      have hk0 : k = 0 := by omega
      subst hk0
      refine ⟨small62_of (by omega) (by omega), ?_⟩
      obtain ⟨J, hJ⟩ : ∃ J : Nat → S → Prop, ∀ i s, J i s ↔ ∃ st ds x4 x5 x7 ps, s = ⟨[some (.box n, false), some (.int m, false), some (.int (1 + sz), false), some (.lst ds, true), x4, x5, some (.lst ps, true), x7], st⟩ ∧ PS n st ∧ (1 + sz).toNat ≤ ds.length + i ∧ ds.length ≤ 25 ∧ (∀ d ∈ ds, Cl (24 * 2 ^ 12) d) ∧ ps.length = i ∧ ∀ p ∈ ps, Pt p := ⟨_, fun _ _ => Iff.rfl⟩
      refine ok_forL J _ ((hJ _ _).mpr ⟨_, _, _, _, _, _, rfl, hP2, by omega, g2, hC, rfl, by simp⟩) ?_ ?_
      · intro i d s hd hi
        obtain ⟨st, ds, x4, x5, x7, ps, rfl, hP, i1, i2, hC, hl, hT⟩ := (hJ _ _).mp hi
        obtain ⟨rfl, hi⟩ := range_get hd
        simp
        refine (take_ok hP (by omega) (by omega)).mono ?_
        rintro t st1 ⟨hP1, at_, rfl, a0, a1⟩
        simp
        refine pop_ex a0 a1 (by omega) fun d hd _ => ?_
        obtain ⟨a, b, rfl, p1, p2, p3⟩ := hC d hd
        simp
        refine (take_ok hP1 (by omega) (by omega)).mono ?_
        rintro t st3 ⟨hP3, v, rfl, v0, v1⟩
        have hlt : at_.toNat < ds.length := by omega
        have hbv : 0 ≤ b * v ∧ b * v ≤ b * 2 := ⟨Int.mul_nonneg (by omega) v0, Int.mul_le_mul_of_nonneg_left (by omega) (by omega)⟩
        simp
        refine ⟨okMul_r (by omega) (by omega), by omega, (hJ _ _).mpr ⟨_, _, _, _, _, _, rfl, hP3, ?_, ?_, ?_, ?_, ?_⟩⟩
        · rw [List.length_eraseIdx, if_pos hlt]; omega
        · rw [List.length_eraseIdx, if_pos hlt]; omega
        · exact fun d hd => hC d (List.mem_of_mem_eraseIdx hd)
        · simp; omega
        · intro p hp
          simp at hp
          rcases hp with hp | rfl
          · exact hT p hp
          · exact .inr ⟨_, _, rfl, by omega, by omega, by omega, by omega⟩
      · intro s hi
        obtain ⟨st, ds, x4, x5, x7, ps, rfl, hP, i1, i2, hC, hl, hT⟩ := (hJ _ _).mp hi
        simp at hl ⊢
        exact ⟨hP, ps, rfl, by omega, by omega, hT⟩
theorem bounded_ok {n : Nat} {m : Int} {st : List (List Int)} (h : PS n st) (h0 : 0 < m) (h1 : m ≤ 12) : FOk f__law_bounded [.box n, .int m] st fun t st' => PS n st' ∧ ∃ d, t = (d, false) ∧ Rl d := by
  unfold f__law_bounded b__law_bounded
  rw [fok_mk]
  refine ⟨rfl, ?_⟩
  simp
  refine (take_ok h (by omega) (by omega)).mono ?_
  rintro t st1 ⟨hP1, sz, rfl, z0, z1⟩
  simp
  refine ⟨?_, small62_of (by omega) (by omega), ?_⟩
  · unfold rgOk
    simp only [Bool.and_eq_true, decide_eq_true_eq]
    exact ⟨⟨small62_of (by decide) (by decide), small62_of (by omega) (by omega)⟩, by omega⟩
  obtain ⟨J, hJ⟩ : ∃ J : Nat → S → Prop, ∀ i s, J i s ↔ ∃ st ds x5 ps, s = ⟨[some (.box n, false), some (.int m, false), some (.int (1 + sz), false), some (.lst ds, true), some (.lst ps, true), x5], st⟩ ∧ PS n st ∧ (1 + sz).toNat = ds.length + i ∧ (∀ d ∈ ds, ∃ v, d = .int v ∧ 0 ≤ v ∧ v < 12) ∧ ps.length = i ∧ ∀ p ∈ ps, Pt p := ⟨_, fun _ _ => Iff.rfl⟩
  refine ok_forL J _ ((hJ _ _).mpr ⟨_, _, _, _, rfl, hP1, by simp, ?_, rfl, by simp⟩) ?_ ?_
  · intro d hd
    obtain ⟨i, e⟩ := List.mem_iff_getElem?.mp hd
    obtain ⟨rfl, hi⟩ := range_get e
    exact ⟨_, rfl, by omega, by omega⟩
  · intro i d s hd hi
    obtain ⟨st, ds, x5, ps, rfl, hP, i1, hC, hl, hT⟩ := (hJ _ _).mp hi
    obtain ⟨rfl, hi⟩ := range_get hd
    simp
    refine (take_ok hP (by omega) (by omega)).mono ?_
    rintro t st1 ⟨hP1, at_, rfl, a0, a1⟩
    simp
    refine pop_ex a0 a1 (by omega) fun d hd _ => ?_
    obtain ⟨a, rfl, p1, p2⟩ := hC d hd
    refine (take_ok hP1 (by omega) (by omega)).mono ?_
    rintro t st3 ⟨hP3, v, rfl, v0, v1⟩
    have hlt : at_.toNat < ds.length := by omega
    have hbv : 0 ≤ (1 + sz) * v ∧ (1 + sz) * v ≤ (1 + sz) * 2 := ⟨Int.mul_nonneg (by omega) v0, Int.mul_le_mul_of_nonneg_left (by omega) (by omega)⟩
    simp
    refine ⟨okMul_r (by omega) (by omega), by omega, (hJ _ _).mpr ⟨_, _, _, _, rfl, hP3, ?_, ?_, ?_, ?_⟩⟩
    · rw [List.length_eraseIdx, if_pos hlt]; omega
    · exact fun d hd => hC d (List.mem_of_mem_eraseIdx hd)
    · simp; omega
    · intro p hp
      simp at hp
      rcases hp with hp | rfl
      · exact hT p hp
      · exact .inr ⟨_, _, rfl, by omega, by omega, by omega, by omega⟩
  · intro s hi
    obtain ⟨st, ds, x5, ps, rfl, hP, i1, hC, hl, hT⟩ := (hJ _ _).mp hi
    simp at hl ⊢
    exact ⟨hP, ps, rfl, by omega, by omega, hT⟩
theorem any_ok {n : Nat} {m : Int} {st : List (List Int)} (h : PS n st) (h0 : 0 < m) (h1 : m ≤ 12) : FOk f__law_any_rule [.box n, .int m] st fun t st' => PS n st' ∧ ∃ d, t = (d, false) ∧ Rl d := by
  unfold f__law_any_rule b__law_any_rule
  rw [fok_mk]
  refine ⟨rfl, ?_⟩
  simp
  refine (take_ok h (by omega) (by omega)).mono ?_
  rintro t st1 ⟨hP1, sz, rfl, z0, z1⟩
  simp
  refine ⟨small62_of (by omega) (by omega), ?_⟩
  obtain ⟨J, hJ⟩ : ∃ J : Nat → S → Prop, ∀ i s, J i s ↔ ∃ st x3 x4 ps, s = ⟨[some (.box n, false), some (.int m, false), some (.lst ps, true), x3, x4], st⟩ ∧ PS n st ∧ ps.length = i ∧ ∀ p ∈ ps, Pt p := ⟨_, fun _ _ => Iff.rfl⟩
  refine ok_forL J _ ((hJ _ _).mpr ⟨_, _, _, _, rfl, hP1, rfl, by simp⟩) ?_ ?_
  · intro i d s hd hi
    obtain ⟨st, x3, x4, ps, rfl, hP, hl, hT⟩ := (hJ _ _).mp hi
    obtain ⟨rfl, hi⟩ := range_get hd
    simp
    refine (take_ok hP (by omega) (by omega)).mono ?_
    rintro t st1 ⟨hP1, at_, rfl, a0, a1⟩
    simp
    refine at_mem a0 (by simpa using a1) fun d hd => ?_
    have hd : ∃ a : Int, d = .int a ∧ 1 ≤ a ∧ a ≤ 12 := by
      simp at hd
      rcases hd with rfl | rfl | rfl | rfl | rfl | rfl | rfl <;> exact ⟨_, rfl, by decide, by decide⟩
    obtain ⟨a, rfl, p0, p1⟩ := hd
    refine (take_ok hP1 (by omega) (by omega)).mono ?_
    rintro t st2 ⟨hP2, b, rfl, b0, b1⟩
    simp
    refine (take_ok hP2 (by omega) (by omega)).mono ?_
    rintro t st3 ⟨hP3, v, rfl, v0, v1⟩
    simp
    refine at_mem v0 (by simpa using v1) fun d hd => ?_
    have hd : Pt d := by
      simp at hd
      rcases hd with rfl | rfl
      · exact .inr ⟨_, _, rfl, by omega, by omega, by omega, by omega⟩
      · exact .inl rfl
    refine ⟨by omega, (hJ _ _).mpr ⟨_, _, _, _, rfl, hP3, by simp; omega, fun p hp => ?_⟩⟩
    simp at hp
    rcases hp with hp | rfl
    · exact hT p hp
    · exact hd
  · intro s hi
    obtain ⟨st, x3, x4, ps, rfl, hP, hl, hT⟩ := (hJ _ _).mp hi
    simp at hl ⊢
    exact ⟨hP, ps, rfl, by omega, by omega, hT⟩
theorem drawn_ok {n : Nat} {st : List (List Int)} (h : PS n st) : FOk f__law_drawn_rule [.box n] st fun t st' => PS n st' ∧ ∃ d, t = (d, false) ∧ Rl d := by
  unfold f__law_drawn_rule b__law_drawn_rule
  rw [fok_mk]
  refine ⟨rfl, ?_⟩
  have hp1 : okPow 10 30 := ⟨by decide, by decide, by decide⟩
  have hp2 : okPow 10 59 := ⟨by decide, by decide, by decide⟩
  have hp3 : okPow 10 40 := ⟨by decide, by decide, by decide⟩
  simp
  refine (take_ok h (by omega) (by omega)).mono ?_
  rintro t st1 ⟨hP1, way, rfl, w0, w1⟩
  simp
  split
  · exact (single_ok hP1 (by decide) (by decide)).mono fun t st' q => q
  split
  · exact (bounded_ok hP1 (by decide) (by decide)).mono fun t st' q => q
  split
  · exact (any_ok hP1 (by decide) (by decide)).mono fun t st' q => q
  refine (take_ok hP1 (by omega) (by omega)).mono ?_
  rintro t st2 ⟨hP2, sz, rfl, z0, z1⟩
  simp
  refine ⟨small62_of (by omega) (by omega), ?_⟩
  obtain ⟨J, hJ⟩ : ∃ J : Nat → S → Prop, ∀ i s, J i s ↔ ∃ st x3 x4 x5 ps, s = ⟨[some (.box n, false), some (.int way, false), some (.lst ps, true), x3, x4, x5], st⟩ ∧ PS n st ∧ ps.length = i ∧ ∀ p ∈ ps, Pt p := ⟨_, fun _ _ => Iff.rfl⟩
  refine ok_forL J _ ((hJ _ _).mpr ⟨_, _, _, _, _, rfl, hP2, rfl, by simp⟩) ?_ ?_
  · intro i d s hd hi
    obtain ⟨st, x3, x4, x5, ps, rfl, hP, hl, hT⟩ := (hJ _ _).mp hi
    obtain ⟨rfl, hi⟩ := range_get hd
    simp [hp1, hp2, hp3]
    refine (take_ok hP (by omega) (by omega)).mono ?_
    rintro t st1 ⟨hP1, at_, rfl, a0, a1⟩
    simp [hp1, hp2, hp3]
    refine at_mem a0 (by simpa using a1) fun d hd => ?_
    have hd : ∃ a : Int, d = .int a ∧ 1 ≤ a ∧ a < 2 ^ 200 := by
      simp at hd
      rcases hd with rfl | rfl | rfl | rfl <;> exact ⟨_, rfl, by decide, by decide⟩
    obtain ⟨a, rfl, p0, p1⟩ := hd
    refine (take_ok hP1 (by omega) (by omega)).mono ?_
    rintro t st2 ⟨hP2, at2, rfl, a0, a1⟩
    simp
    refine at_mem a0 (by simpa using a1) fun d hd => ?_
    have hd : ∃ b : Int, d = .int b ∧ 0 ≤ b ∧ b < 2 ^ 250 := by
      simp at hd
      rcases hd with rfl | rfl | rfl | rfl <;> exact ⟨_, rfl, by decide, by decide⟩
    obtain ⟨b, rfl, b0, b1⟩ := hd
    refine (take_ok hP2 (by omega) (by omega)).mono ?_
    rintro t st3 ⟨hP3, v, rfl, v0, v1⟩
    simp
    refine at_mem v0 (by simpa using v1) fun d hd => ?_
    have hd : Pt d := by
      simp at hd
      rcases hd with rfl | rfl
      · exact .inr ⟨_, _, rfl, p0, p1, b0, by omega⟩
      · exact .inl rfl
    refine ⟨by omega, (hJ _ _).mpr ⟨_, _, _, _, _, rfl, hP3, by simp; omega, fun p hp => ?_⟩⟩
    simp at hp
    rcases hp with hp | rfl
    · exact hT p hp
    · exact hd
  · intro s hi
    obtain ⟨st, x3, x4, x5, ps, rfl, hP, hl, hT⟩ := (hJ _ _).mp hi
    simp at hl ⊢
    exact ⟨hP, ps, rfl, by omega, by omega, hT⟩
theorem isnum_ok {v l : Int} {st : List (List Int)} (h : l ≤ v) : FOk f_is_number [.int v, .int l, .non] st fun t st' => t = (.bl true, false) ∧ st' = st := by
  unfold f_is_number b_is_number
  rw [fok_mk]
  refine ⟨rfl, ?_⟩
  have h' : ¬ v < l := by omega
  simp [h']
theorem ispart_ok {p : D} {st : List (List Int)} (h : Pt p) : FOk f_is_part [p] st fun t st' => t = (.bl true, false) ∧ st' = st := by
  unfold f_is_part b_is_part
  rw [fok_mk]
  refine ⟨rfl, ?_⟩
  rcases h with rfl | ⟨a, b, rfl, a0, a1, b0, b1⟩
  · simp
  · simp [pickS, Sel.get]
    refine (isnum_ok a0).mono ?_
    rintro t st' ⟨rfl, rfl⟩
    simp
    refine (isnum_ok b0).mono ?_
    rintro t st' ⟨rfl, rfl⟩
    simp
theorem checkrule_ok {d : D} {st : List (List Int)} (h : Rl d) : FOk f_check_rule [d, .bl false] st fun t st' => t = (.non, false) ∧ st' = st := by
  obtain ⟨ds, rfl, l1, l2, hp⟩ := h
  unfold f_check_rule b_check_rule
  rw [fok_mk]
  refine ⟨rfl, ?_⟩
  have l1' : (1 : Int) ≤ ds.length := by omega
  have l2' : (ds.length : Int) ≤ 12 := by omega
  simp [l1', l2']
  obtain ⟨J, hJ⟩ : ∃ J : Nat → S → Prop, ∀ i s, J i s ↔ ∃ x y, s = ⟨[some (.tup ds, false), some (.bl false, false), x, y], st⟩ := ⟨_, fun _ _ => Iff.rfl⟩
  refine ok_forL J _ ((hJ _ _).mpr ⟨_, _, rfl⟩) ?_ ?_
  · intro i d s hd hi
    obtain ⟨x, y, rfl⟩ := (hJ _ _).mp hi
    obtain ⟨e, he, rfl⟩ := numD_get _ _ _ _ hd
    simp
    refine (ispart_ok (hp e (List.mem_of_getElem? he))).mono ?_
    rintro t st' ⟨rfl, rfl⟩
    simp
    exact (hJ _ _).mpr ⟨_, _, rfl⟩
  · intro s hi
    obtain ⟨x, y, rfl⟩ := (hJ _ _).mp hi
    simp
theorem isrule_ok {d : D} {st : List (List Int)} (h : Rl d) : FOk f_is_rule [d] st fun t st' => t = (.bl true, false) ∧ st' = st := by
  obtain ⟨ds, rfl, l1, l2, hp⟩ := h
  unfold f_is_rule b_is_rule
  rw [fok_mk]
  refine ⟨rfl, ?_⟩
  have l1' : (1 : Int) ≤ ds.length := by omega
  have l2' : (ds.length : Int) ≤ 12 := by omega
  simp [l1', l2', freeE]
  obtain ⟨I, hI⟩ : ∃ I : Nat → List D → S → Prop, ∀ i acc s, I i acc s ↔ ∃ o, s = ⟨[some (.tup ds, false), o], st⟩ ∧ acc.length = i ∧ ∀ d ∈ acc, d = .bl true := ⟨_, fun _ _ _ => Iff.rfl⟩
  refine ok_lcL I _ ((hI _ _ _).mpr ⟨_, rfl, rfl, by simp⟩) ?_ ?_
  · intro i d acc s hd hi
    obtain ⟨o, rfl, la, hA⟩ := (hI _ _ _).mp hi
    simp [wipeE]
    refine (ispart_ok (hp d (List.mem_of_getElem? hd))).mono ?_
    rintro t st' ⟨rfl, rfl⟩
    exact (hI _ _ _).mpr ⟨_, rfl, by simp [la], fun d hd => (List.mem_append.mp hd).elim (hA d) fun z => by simpa using z⟩
  · intro acc s hi
    obtain ⟨o, rfl, la, hA⟩ := (hI _ _ _).mp hi
    simp [restE, all_true hA]
    omega
abbrev Pr2 := Option (Nat × Nat)
def oD : Pr2 → D
  | none => .non
  | some p => .tup [.int (p.1 : Int), .int (p.2 : Int)]
def pS : Pr2 → Str
  | none => "-"
  | some p => nS p.1 ++ " " ++ nS p.2
def ruS (rs : List Pr2) : Str := Txt.join "; " (rs.map pS)
def gO : Pr2 → Prop
  | none => True
  | some p => 1 ≤ p.1 ∧ p.1 < 2 ^ 200 ∧ p.2 < 2 ^ 350
def Rs (rs : List Pr2) : Prop := 1 ≤ rs.length ∧ rs.length ≤ 12 ∧ ∀ o ∈ rs, gO o
theorem gO_a {p : Nat × Nat} (h : gO (some p)) : p.1 < 10 ^ 110 ∧ p.2 < 10 ^ 110 ∧ p.1 < 2 ^ 350 ∧ p.2 < 2 ^ 350 ∧ 1 ≤ p.1 := by
  obtain ⟨h1, h2, h3⟩ := h
  have e1 : (2 : Nat) ^ 200 ≤ 2 ^ 350 := Nat.pow_le_pow_right (by decide) (by decide)
  have e2 : (2 : Nat) ^ 350 ≤ 10 ^ 110 := by decide
  exact ⟨by omega, by omega, by omega, h3, h1⟩
theorem rl_rs {d : D} (h : Rl d) : ∃ rs : List Pr2, d = .tup (rs.map oD) ∧ Rs rs := by
  obtain ⟨ds, rfl, l1, l2, hp⟩ := h
  have key : ∀ ds : List D, (∀ p ∈ ds, Pt p) → ∃ rs : List Pr2, ds = rs.map oD ∧ ∀ o ∈ rs, gO o := by
    intro ds
    induction ds with
    | nil => exact fun _ => ⟨[], rfl, by simp⟩
    | cons d ds ih =>
      intro hp
      obtain ⟨rs, rfl, hr⟩ := ih fun p hp' => hp p (by simp [hp'])
      rcases hp d (by simp) with rfl | ⟨a, b, rfl, a0, a1, b0, b1⟩
      · refine ⟨none :: rs, rfl, fun o ho => ?_⟩
        rcases List.mem_cons.mp ho with rfl | ho
        · trivial
        · exact hr o ho
      · obtain ⟨n, rfl⟩ := Int.eq_ofNat_of_zero_le (show 0 ≤ a by omega)
        obtain ⟨m, rfl⟩ := Int.eq_ofNat_of_zero_le b0
        refine ⟨some (n, m) :: rs, rfl, fun o ho => ?_⟩
        rcases List.mem_cons.mp ho with rfl | ho
        · exact ⟨by omega, by show n < 2 ^ 200; omega, by show m < 2 ^ 350; omega⟩
        · exact hr o ho
  obtain ⟨rs, rfl, hr⟩ := key ds hp
  rw [List.length_map] at l1 l2
  exact ⟨rs, rfl, l1, l2, hr⟩
theorem rs_rl {rs : List Pr2} (h : Rs rs) : Rl (.tup (rs.map oD)) := by
  refine ⟨_, rfl, by rw [List.length_map]; exact h.1, by rw [List.length_map]; exact h.2.1, fun p hp => ?_⟩
  obtain ⟨o, ho, rfl⟩ := List.mem_map.mp hp
  have := h.2.2 o ho
  cases o with
  | none => exact .inl rfl
  | some p =>
    obtain ⟨h1, h2, h3⟩ := this
    exact .inr ⟨_, _, rfl, by omega, by omega, by omega, by omega⟩
theorem tl_dash : TL.tl ("-" : Str) = [45] := by decide
theorem tl_sp : TL.tl (" " : Str) = [32] := by decide
theorem tl_semi : TL.tl ("; " : Str) = [59, 32] := by decide
theorem tl_empty : TL.tl ("" : Str) = [] := by decide
theorem pS_tl (p : Nat × Nat) : TL.tl (pS (some p)) = TL.numL p.1 ++ ([32] ++ TL.numL p.2) := by
  show TL.tl (nS p.1 ++ " " ++ nS p.2) = _
  rw [TL.tl_append, TL.tl_append, nS_tl, nS_tl, tl_sp, List.append_assoc]
theorem pS_ne (o : Pr2) : TL.tl (pS o) ≠ [] := by
  cases o with
  | none => rw [show pS none = ("-" : Str) from rfl, tl_dash]; simp
  | some p => rw [pS_tl]; exact fun e => TL.numL_ne _ (List.append_eq_nil_iff.mp e).1
theorem nS_len' {n : Nat} (h : n < 10 ^ 110) : (nS n).length ≤ 110 := nS_len (by decide) h
theorem pS_len {o : Pr2} (h : gO o) : (pS o).length ≤ 221 := by
  cases o with
  | none => decide
  | some p =>
    obtain ⟨h1, h2, _⟩ := gO_a h
    have l1 := nS_len' h1
    have l2 := nS_len' h2
    rw [TL.len_tl, nS_tl] at l1 l2
    rw [TL.len_tl, pS_tl, List.length_append, List.length_append]
    simp
    omega
theorem pS_free {o : Pr2} : (59 : Nat) ∉ TL.tl (pS o) := by
  cases o with
  | none => rw [show pS none = ("-" : Str) from rfl, tl_dash]; decide
  | some p =>
    rw [pS_tl]
    simp only [List.mem_append, not_or]
    exact ⟨TL.numL_free (by omega), by decide, TL.numL_free (by omega)⟩
theorem ruS_sum {rs : List Pr2} (h : ∀ o ∈ rs, gO o) : ((rs.map pS).map (·.length)).sum ≤ rs.length * 221 := by
  rw [List.map_map]
  exact sum_le _ 221 rs fun o ho => pS_len (h o ho)
theorem ruS_len {rs : List Pr2} (h : ∀ o ∈ rs, gO o) : (ruS rs).length ≤ rs.length * 223 := by
  have := join_len "; " (rs.map pS)
  have h1 := ruS_sum h
  rw [List.length_map, show ("; " : Str).length = 2 by decide] at this
  show (Txt.join "; " (rs.map pS)).length ≤ _
  omega
theorem ruS_split {rs : List Pr2} (h : rs ≠ []) : Txt.split (ruS rs) "; " = rs.map pS := by
  refine TL.split_join tl_semi (by decide +kernel) (by simpa using h) fun p hp => ?_
  obtain ⟨o, _, rfl⟩ := List.mem_map.mp hp
  exact pS_free
theorem pS_split (p : Nat × Nat) : Txt.split (pS (some p)) " " = [nS p.1, nS p.2] := by
  have e : pS (some p) = Txt.join " " [nS p.1, nS p.2] := by
    rw [TL.join_eq]; rfl
  rw [e]
  refine TL.split_join tl_sp (by decide +kernel) (by simp) fun q hq => ?_
  rcases List.mem_cons.mp hq with rfl | hq
  · rw [nS_tl]; exact TL.numL_free (by omega)
  · rw [List.mem_singleton.mp hq, nS_tl]; exact TL.numL_free (by omega)
end L2.Pd.K23
set_option maxHeartbeats 1000000
namespace L2.Pd.K23
open PySem PySem.Spec PyProof.Rows L2 L2.Pd
theorem ruS_take {rs : List Pr2} {i : Nat} {o : Pr2} (h : rs[i]? = some o) : ruS (rs.take (i + 1)) = if ruS (rs.take i) = "" then pS o else ruS (rs.take i) ++ "; " ++ pS o := by
  have e : (rs.take (i + 1)).map pS = (rs.take i).map pS ++ [pS o] := by rw [List.take_add_one, h]; simp
  unfold ruS
  rw [e]
  by_cases hi : (rs.take i).map pS = []
  · rw [hi, join_nil, if_pos (by rfl)]
    exact join_one
  · rw [join_snoc hi, if_neg]
    intro z
    have z := congrArg TL.tl z
    rw [join_tlL, tl_empty] at z
    refine joinL_ne (by simpa using hi) (fun p hp => ?_) z
    obtain ⟨q, hq, rfl⟩ := List.mem_map.mp hp
    obtain ⟨o, _, rfl⟩ := List.mem_map.mp hq
    exact pS_ne o
theorem words_ok {rs : List Pr2} {st : List (List Int)} (h : Rs rs) : FOk f__law_words [.tup (rs.map oD)] st fun t st' => t = (.str (ruS rs), false) ∧ st' = st := by
  unfold f__law_words b__law_words
  rw [fok_mk]
  refine ⟨rfl, ?_⟩
  simp
  obtain ⟨I, hI⟩ : ∃ I : Nat → S → Prop, ∀ i s, I i s ↔ ∃ x y, s = ⟨[some (.tup (rs.map oD), false), some (.str (ruS (rs.take i)), false), x, y], st⟩ := ⟨_, fun _ _ => Iff.rfl⟩
  refine ok_forL I _ ((hI _ _).mpr ⟨_, _, by rw [List.take_zero]; rfl⟩) ?_ ?_
  · intro i d s hd hi
    obtain ⟨x, y, rfl⟩ := (hI _ _).mp hi
    rw [List.getElem?_map] at hd
    obtain ⟨o, ho, rfl⟩ := Option.map_eq_some_iff.mp hd
    have go := h.2.2 o (List.mem_of_getElem? ho)
    have hin : ∀ o ∈ rs.take i, gO o := fun o ho => h.2.2 o (List.mem_of_mem_take ho)
    have hl := ruS_len hin
    rw [List.length_take] at hl
    have hil : i < rs.length := by
      rcases Nat.lt_or_ge i rs.length with z | z
      · exact z
      · rw [List.getElem?_eq_none z] at ho; cases ho
    have h12 := h.2.1
    have hp := pS_len go
    have hs2 : ("; " : Str).length = 2 := by decide
    have hcat : (ruS (rs.take i) ++ "; ").length = (ruS (rs.take i)).length + 2 := by
      rw [TL.len_tl, TL.tl_append, List.length_append, ← TL.len_tl, ← TL.len_tl, hs2]
    have fin : ∀ (x y : Option DB) (v : Str), v = ruS (rs.take (i + 1)) → I (i + 1) ⟨[some (.tup (rs.map oD), false), some (.str v, false), x, y], st⟩ := fun x y v e => (hI _ _).mpr ⟨x, y, by rw [e]⟩
    have step : ∀ (x : Option DB), (if ruS (rs.take i) = "" then I (i + 1) ⟨[some (.tup (rs.map oD), false), some (.str (pS o), false), x, some (.str (pS o), false)], st⟩ else I (i + 1) ⟨[some (.tup (rs.map oD), false), some (.str (ruS (rs.take i) ++ "; " ++ pS o), false), x, some (.str (pS o), false)], st⟩) := fun x => by
      have e := ruS_take ho
      split
      · rename_i c
        rw [if_pos c] at e
        exact fin _ _ _ e.symm
      · rename_i c
        rw [if_neg c] at e
        exact fin _ _ _ e.symm
    cases o with
    | none =>
      simp [oD]
      have st2 := step (some (D.non, false))
      split
      · rename_i c
        rw [if_pos c] at st2
        exact st2
      · rename_i c
        rw [if_neg c] at st2
        have hp' : (("-" : Str)).length ≤ 221 := hp
        exact ⟨by rw [hs2]; omega, by rw [hcat]; omega, st2⟩
    | some p =>
      obtain ⟨g1, g2, g3, g4, g5⟩ := gO_a go
      have l1 := nS_len' g1
      have l2 := nS_len' g2
      have hsp : (" " : Str).length = 1 := by decide
      have hc2 : (nS p.1 ++ " ").length = (nS p.1).length + 1 := by
        rw [TL.len_tl, TL.tl_append, List.length_append, ← TL.len_tl, ← TL.len_tl, hsp]
      simp [oD, strD_n (k := 350) (by decide) (by decide) g3, strD_n (k := 350) (by decide) (by decide) g4]
      refine ⟨by rw [hsp]; omega, by rw [hc2]; omega, ?_⟩
      have st2 := step (some (D.tup [.int (p.1 : Int), .int (p.2 : Int)], false))
      split
      · rename_i c
        rw [if_pos c] at st2
        exact st2
      · rename_i c
        rw [if_neg c] at st2
        exact ⟨by rw [hs2]; omega, by rw [hcat]; have : (nS p.1 ++ " " ++ nS p.2).length ≤ 221 := hp; omega, st2⟩
  · intro s hi
    obtain ⟨x, y, rfl⟩ := (hI _ _).mp hi
    simp
theorem fs3_n {a b : Nat} (h : gO (some (a, b))) : fs3D " " (.int (a : Int)) (.int (b : Int)) = some (.str (pS (some (a, b))), false) := by
  obtain ⟨g1, g2, g3, g4, g5⟩ := gO_a h
  have l1 : (nS a).length ≤ 110 := nS_len' g1
  have l2 : (nS b).length ≤ 110 := nS_len' g2
  have hsp : (" " : Str).length = 1 := by decide
  have hc2 : (nS a ++ " ").length = (nS a).length + 1 := by
    rw [TL.len_tl, TL.tl_append, List.length_append, ← TL.len_tl, ← TL.len_tl, hsp]
  have hc3 : (nS a ++ " " ++ nS b).length = (nS a).length + 1 + (nS b).length := by
    rw [TL.len_tl, TL.tl_append, List.length_append, ← TL.len_tl, ← TL.len_tl, hc2]
  have ea : (Str.empty ++ (toString ((a : Nat) : Int) : Str)) = nS a := empty_app _
  have eb : ((toString ((b : Nat) : Int) : String) : Str) = nS b := rfl
  show (if fsOk (a : Int) (b : Int) " " then some (D.str (Str.empty ++ (toString ((a : Nat) : Int) : Str) ++ " " ++ (toString ((b : Nat) : Int) : Str)), false) else none) = _
  rw [if_pos, ea, eb]
  · rfl
  · unfold fsOk
    rw [ea, eb, hc3, hc2]
    have lg : ∀ n : Nat, n < 2 ^ 350 → ((n : Nat) : Int).natAbs.log2 < 1920 := fun n hn => Nat.lt_of_lt_of_le (log2_lt (k := 350) (by simpa using hn) (by decide)) (by decide)
    rw [L2.Pd.sizeLine_eq]
    exact ⟨lg a g3, lg b g4, by omega, by omega, by omega⟩
theorem show_ok {rs : List Pr2} {st : List (List Int)} (h : Rs rs) : Ret f_show_rule [.tup (rs.map oD)] st (.str (ruS rs), false) := by
  refine ⟨?_⟩
  unfold f_show_rule b_show_rule
  rw [fok_mk]
  refine ⟨rfl, ?_⟩
  simp
  refine (checkrule_ok (rs_rl h)).mono ?_
  rintro t st' ⟨rfl, rfl⟩
  simp [freeE]
  refine lcL_map (fun o => .str (pS o)) (fun o ho => ?_) (fun E hE => ?_)
  · have go := h.2.2 o ho
    cases o with
    | none => simp [wipeE, oD]; rfl
    | some p =>
      obtain ⟨a, b⟩ := p
      simp [wipeE, oD, fs3_n go]
  · rw [hE]
    have h12 := h.2.1
    refine ⟨by simp; omega, ?_⟩
    have e : joinD (.str "; ") (.lst (rs.map fun o => .str (pS o))) = some (.str (ruS rs), false) := by
      show (strsOf (rs.map fun o => D.str (pS o))).bind _ = _
      rw [strsOf_as]
      have hs := ruS_sum h.2.2
      show (if ((rs.map pS).map (·.length)).sum + (rs.map pS).length * ("; " : Str).length ≤ 16777216 then _ else _) = _
      rw [if_pos]
      · rfl
      · rw [List.length_map, show ("; " : Str).length = 2 by decide]
        omega
    simp [e]
end L2.Pd.K23
set_option maxHeartbeats 1000000
namespace L2.Pd.K23
open PySem PySem.Spec PyProof.Rows L2 L2.Pd
theorem dig_in : ∀ c ∈ List.range 58, 48 ≤ c → c ∈ (("0123456789" : String) : Str).cps.toList := by decide +kernel
theorem figs_ok {n : Nat} {st : List (List Int)} (h : n < 10 ^ 110) : Ret f_figures_of [.str (nS n)] st (.int (n : Int), false) := by
  refine ⟨?_⟩
  unfold f_figures_of b_figures_of
  rw [fok_mk]
  refine ⟨rfl, ?_⟩
  have hne : ¬ nS n = "" := fun e => by
    have e := congrArg TL.tl e
    rw [nS_tl, tl_empty] at e
    exact TL.numL_ne n e
  have hl := nS_len' h
  simp [hne, freeE]
  refine lcL_map (fun c => .bl (decide (c ∈ (("0123456789" : String) : Str).cps.toList))) (fun c hc => ?_) (fun E hE => ?_)
  · have hin : inSgD [D.str ⟨#[c]⟩, .str (Str.ofString "0123456789")] = some (.bl (decide (c ∈ (("0123456789" : String) : Str).cps.toList)), false) := rfl
    simp [wipeE, hin]
  · rw [hE]
    have hall : (nS n).cps.toList.all (fun c => decide (c ∈ (("0123456789" : String) : Str).cps.toList)) = true := by
      rw [List.all_eq_true]
      intro c hc
      have hd := TL.numL_digits n c (by rw [← nS_tl]; exact hc)
      exact decide_eq_true (dig_in c (List.mem_range.mpr (by omega)) hd.1)
    have hint : intTD [.str (nS n)] = some (.int (n : Int), false) := by
      show (if (nS n).length ≤ 640 then (PySem.intText? (nS n)).map fun n => (D.int n, false) else none) = _
      rw [if_pos (by omega), show PySem.intText? (nS n) = some (n : Int) from TL.int_num (by rw [← nS_tl, ← TL.len_tl]; omega)]
      rfl
    have hsz : (nS n).cps.toList.length ≤ 110 := by rw [← TL.len_tl (nS n)] <;> exact hl
    refine ⟨by simpa using by simpa using (show (nS n).cps.toList.length ≤ 16777216 by omega), ?_⟩
    rw [all_map, hall]
    by_cases n0 : n = 0
    · subst n0
      have e0 : nS 0 = "0" := by decide +kernel
      have a0 : idxD [.str (nS 0), .int 0] = some (.str ⟨#[48]⟩, false) := by
        show (if (nS 0).length ≤ sizeLine then (atI (nS 0).cps.toList 0).map fun c => (D.str ⟨#[c]⟩, false) else none) = _
        rw [if_pos (by rw [L2.Pd.sizeLine_eq]; omega), show (nS 0).cps.toList = [48] by decide +kernel, atI_0]
        rfl
      simp [a0, hint]
      simp [e0]
    · obtain ⟨c, l, e, hc⟩ := numL_head (n := n) (by omega)
      have a0 : idxD [.str (nS n), .int 0] = some (.str ⟨#[c]⟩, false) := by
        show (if (nS n).length ≤ sizeLine then (atI (nS n).cps.toList 0).map fun c => (D.str ⟨#[c]⟩, false) else none) = _
        rw [if_pos (by rw [L2.Pd.sizeLine_eq]; omega), show (nS n).cps.toList = c :: l by rw [← e, ← nS_tl] <;> rfl, atI_0]
        rfl
      have c0 : ¬ (⟨#[c]⟩ : Str) = "0" := fun z => by
        have z := congrArg TL.tl z
        rw [show TL.tl (("0" : String) : Str) = [48] by decide] at z
        have z : [c] = [48] := z
        simp at z
        omega
      simp [a0, hint, c0]
theorem part_ok {o : Pr2} {st : List (List Int)} (h : gO o) : Ret f_read_part [.str (pS o)] st (.lst [oD o], true) := by
  refine ⟨?_⟩
  unfold f_read_part b_read_part
  rw [fok_mk]
  refine ⟨rfl, ?_⟩
  cases o with
  | none =>
    have e : pS none = "-" := rfl
    simp [e, oD]
  | some p =>
    have hne : ¬ pS (some p) = "-" := fun e => by
      have e := congrArg (fun x => (TL.tl x).length) e
      simp only [pS_tl, tl_dash, List.length_append, List.length_singleton] at e
      have := TL.numL_ne p.1
      have := TL.numL_ne p.2
      have h1 := List.length_pos_iff.mpr (TL.numL_ne p.1)
      have h2 := List.length_pos_iff.mpr (TL.numL_ne p.2)
      omega
    have hl := pS_len h
    obtain ⟨g1, g2, g3, g4, g5⟩ := gO_a h
    have hsp : splitD (.str (pS (some p))) (.str " ") = some (.lst [.str (nS p.1), .str (nS p.2)], true) := by
      show (if ((" " : Str).length == 0) = false ∧ (pS (some p)).length + 2 ≤ sizeLine then some (D.lst ((Txt.split (pS (some p)) " ").map D.str), true) else none) = _
      rw [if_pos ⟨by decide, by rw [L2.Pd.sizeLine_eq]; omega⟩, pS_split]
      rfl
    simp [hne, hsp, freeE]
    refine lcL_map (xs := [p.1, p.2]) (f := fun n => .str (nS n)) (fun n => .int (n : Int)) (fun n hn => ?_) (fun E hE => ?_)
    · have hn' : n < 10 ^ 110 := by
        rcases List.mem_cons.mp hn with rfl | hn
        · exact g1
        · rw [List.mem_singleton.mp hn]; exact g2
      simp [wipeE]
      refine (figs_ok hn').to ?_
      simp [wipeE]
    · rw [hE]
      have hni : notInD [.non, .lst [.int (p.1 : Int), .int (p.2 : Int)]] = some (.bl true, false) := by
        show (if pyShaped .none && pyShaped (.list [.int (p.1 : Int), .int (p.2 : Int)]) then some (D.bl (!([PyData.int (p.1 : Int), .int (p.2 : Int)].any fun z => PyData.eqv z .none)), false) else none) = _
        rw [if_pos (by rfl)]
        simp [PyData.eqv]
      simp [hni, oD]
end L2.Pd.K23
set_option maxHeartbeats 1000000
namespace L2.Pd.K23
open PySem PySem.Spec PyProof.Rows L2 L2.Pd
def oP : Pr2 → PyData
  | none => .none
  | some p => .tuple [.int (p.1 : Int), .int (p.2 : Int)]
theorem oD_py (o : Pr2) : (oD o).py = some (oP o) := by cases o <;> rfl
theorem shp_oD {o : Pr2} : Shp 1 (oD o) := by
  cases o with
  | none => exact shp_non
  | some p =>
    refine shp_tup (k := 0) fun d hd => ?_
    simp at hd
    rcases hd with rfl | rfl <;> exact shp_int
theorem none_in (rs : List Pr2) : inD [.lst [], .lst (rs.map fun o => .lst [oD o])] = some (.bl false, false) := by
  have key : ∀ rs : List Pr2, D.pyL (rs.map fun o => .lst [oD o]) = some (rs.map fun o => .list [oP o]) := by
    intro rs
    induction rs with
    | nil => rfl
    | cons o rs ih => simp only [List.map_cons, D.pyL, D.py, ih, oD_py, Option.map_some]
  have hs : (pyShaped (.list []) && pyShaped (.list (rs.map fun o => .list [oP o]))) = true := by
    obtain ⟨p, e, h⟩ := (shp_lst (ds := rs.map fun o => .lst [oD o]) (k := 2) fun d hd => by
      obtain ⟨o, _, rfl⟩ := List.mem_map.mp hd
      exact shp_lst fun d hd => by rw [List.mem_singleton.mp hd]; exact shp_oD).shaped (by decide)
    rw [D.py, key] at e
    cases e
    rw [h]
    rfl
  simp only [inD, D.py, D.pyL, key, Option.map_some, hs, if_true]
  have hf : ((rs.map fun o => PyData.list [oP o]).any fun z => PyData.eqv z (.list [])) = false := by
    rw [List.any_eq_false]
    intro z hz
    obtain ⟨o, _, rfl⟩ := List.mem_map.mp hz
    simp [PyData.eqv, PyData.eqvAll]
  rw [hf]
theorem read_ok {rs : List Pr2} {st : List (List Int)} (h : Rs rs) : Ret f_read_rule [.str (ruS rs)] st (.tup (rs.map oD), false) := by
  refine ⟨?_⟩
  unfold f_read_rule b_read_rule
  rw [fok_mk]
  refine ⟨rfl, ?_⟩
  have hl := ruS_len h.2.2
  have h12 := h.2.1
  have hne : rs ≠ [] := fun e => by have := h.1; rw [e] at this; simp at this
  have hsp : splitD (.str (ruS rs)) (.str "; ") = some (.lst (rs.map fun o => .str (pS o)), true) := by
    show (if (("; " : Str).length == 0) = false ∧ (ruS rs).length + 2 ≤ sizeLine then some (D.lst ((Txt.split (ruS rs) "; ").map D.str), true) else none) = _
    rw [if_pos ⟨by decide, by rw [L2.Pd.sizeLine_eq]; omega⟩, ruS_split hne, List.map_map]
    rfl
  simp [hsp, freeE]
  refine lcL_map (fun o => .lst [oD o]) (fun o ho => ?_) (fun E hE => ?_)
  · simp [wipeE]
    refine (part_ok (h.2.2 o ho)).to ?_
    simp [wipeE]
  · rw [hE]
    refine ⟨by simp; omega, ?_⟩
    simp [freeE]
    obtain ⟨I, hI⟩ : ∃ I : Nat → List D → S → Prop, ∀ i acc s, I i acc s ↔ ∃ x y, s = ⟨[some (.str (ruS rs), false), some (.lst (rs.map fun o => .lst [oD o]), false), none, x, y], st⟩ ∧ acc = (rs.take i).map oD := ⟨_, fun _ _ _ => Iff.rfl⟩
    refine ok_lc2L I _ ((hI _ _ _).mpr ⟨_, _, rfl, by simp⟩) ?_ ?_
    · intro i d acc s hd hi
      obtain ⟨x, y, rfl, rfl⟩ := (hI _ _ _).mp hi
      rw [List.getElem?_map] at hd
      obtain ⟨o, ho, rfl⟩ := Option.map_eq_some_iff.mp hd
      simp [wipeE]
      rw [ok_lcL_cons]
      simp [wipeE]
      show Ok (pure []) _ _
      simp
      refine (hI _ _ _).mpr ⟨_, _, rfl, ?_⟩
      rw [List.take_add_one, ho]; simp
    · intro acc s hi
      obtain ⟨x, y, rfl, rfl⟩ := (hI _ _ _).mp hi
      simp only [List.length_map, List.take_length]
      simp [restE, none_in]
      refine ⟨by omega, ?_⟩
      refine (isrule_ok (rs_rl h)).mono ?_
      rintro t st' ⟨rfl, rfl⟩
      simp
end L2.Pd.K23
set_option maxHeartbeats 1000000
namespace L2.Pd.K23
open PySem PySem.Spec PyProof.Rows L2 L2.Pd
theorem joinL_mem {S : List Nat} {c : Nat} : ∀ {ps : List (List Nat)}, c ∈ TL.joinL S ps → c ∈ S ∨ ∃ p ∈ ps, c ∈ p
  | [], h => by cases h
  | [p], h => .inr ⟨p, by simp, h⟩
  | p :: q :: r, h => by
    have h : c ∈ p ++ (S ++ TL.joinL S (q :: r)) := h
    rcases List.mem_append.mp h with h | h
    · exact .inr ⟨p, by simp, h⟩
    · rcases List.mem_append.mp h with h | h
      · exact .inl h
      · rcases joinL_mem h with h | ⟨z, hz, h⟩
        · exact .inl h
        · exact .inr ⟨z, by simp at hz ⊢; exact .inr hz, h⟩
theorem ruS_strOk (rs : List Pr2) : PyData.strOk (ruS rs) = true := by
  have key : ∀ c ∈ TL.tl (ruS rs), c < 256 := by
    intro c hc
    unfold ruS at hc
    rw [join_tlL] at hc
    have hn : ∀ n : Nat, c ∈ TL.numL n → c < 256 := fun n h => by have := TL.numL_digits n c h; omega
    rcases joinL_mem hc with h | ⟨p, hp, h⟩
    · rw [tl_semi] at h; simp at h; omega
    · obtain ⟨q, hq, rfl⟩ := List.mem_map.mp hp
      obtain ⟨o, _, rfl⟩ := List.mem_map.mp hq
      cases o with
      | none => rw [show pS none = ("-" : Str) from rfl, tl_dash] at h; simp at h; omega
      | some p =>
        rw [pS_tl] at h
        rcases List.mem_append.mp h with h | h
        · exact hn _ h
        · rcases List.mem_append.mp h with h | h
          · simp at h; omega
          · exact hn _ h
  unfold PyData.strOk
  rw [← Array.all_toList, List.all_eq_true]
  intro c hc
  have := key c hc
  exact decide_eq_true (by omega)
theorem ne_two (rs : List Pr2) : neD [.lst [.str (ruS rs), .str (ruS rs)], .lst [.str (ruS rs), .str (ruS rs)]] = some (.bl false, false) := by
  have h : Shp 64 (.lst [.str (ruS rs), .str (ruS rs)]) := (shp_lst (k := 0) fun d hd => by
    have e : d = .str (ruS rs) := by simpa using hd
    rw [e]
    exact ⟨.str (ruS rs), rfl, ruS_strOk rs, Nat.zero_le _⟩).mono (by decide)
  rw [neD_q h h, q_self h]; rfl
theorem shw_o {o : Pr2} (h : gO o) : Shw 800 1 (oD o) := by
  cases o with
  | none => exact shw_non.mono (by decide) (by decide)
  | some p =>
    obtain ⟨g1, g2, g3, g4, g5⟩ := gO_a h
    refine (shw_tup (n := 351) (k := 0) (m := 2) (fun d hd => ?_) (by simp)).mono (by decide) (by decide)
    simp at hd
    rcases hd with rfl | rfl
    · exact shw_int (k := 350) (by simpa using g3) (by decide) (by decide)
    · exact shw_int (k := 350) (by simpa using g4) (by decide) (by decide)
theorem repr_two {rs : List Pr2} (h : Rs rs) : ∃ x, reprD [.lst [.tup (rs.map oD), .tup (rs.map oD)]] = some (.str x, false) := by
  have h1 : Shw 10000 2 (.tup (rs.map oD)) := (shw_tup (n := 800) (k := 1) (m := 12) (fun d hd => by
    obtain ⟨o, ho, rfl⟩ := List.mem_map.mp hd
    exact shw_o (h.2.2 o ho)) (by rw [List.length_map]; exact h.2.1)).mono (by decide) (by decide)
  exact repr_ok (shw_lst (n := 10000) (k := 2) (m := 2) (fun d hd => by
    have e : d = .tup (rs.map oD) := by simpa using hd
    rw [e]
    exact h1) (by simp)) (by decide) (by decide)
def RD (d : D) : Prop := ∃ rs : List Pr2, d = .tup (rs.map oD) ∧ Rs rs
theorem rd_of {rs : List Pr2} {d : D} (e : d = .tup (rs.map oD)) (h1 : 1 ≤ rs.length) (h2 : rs.length ≤ 12) (h3 : ∀ o ∈ rs, gO o) : RD d := ⟨rs, e, h1, h2, h3⟩
theorem rd_great {v : Int} (v0 : 0 ≤ v) (v1 : v < 99) : RD (.tup [.tup [.int (10 ^ 59 + v), .int (10 ^ 59)], .non, .tup [.int 1, .int 0]]) := by
  obtain ⟨n, rfl⟩ := Int.eq_ofNat_of_zero_le v0
  refine rd_of (rs := [some (10 ^ 59 + n, 10 ^ 59), none, some (1, 0)]) (by simp [oD]) (by simp) (by simp) fun o ho => ?_
  simp at ho
  rcases ho with rfl | rfl | rfl
  · refine ⟨by show 1 ≤ 10 ^ 59 + n; omega, by show 10 ^ 59 + n < 2 ^ 200; omega, by show 10 ^ 59 < 2 ^ 350; decide⟩
  · trivial
  · exact ⟨by decide, by decide, by decide⟩
theorem rd_non : RD (.tup [.non]) := rd_of (rs := [none]) rfl (by decide) (by decide) fun o ho => by rw [List.mem_singleton.mp ho]; trivial
theorem rd_nons : RD (.tup (List.replicate 12 [D.non]).flatten) := rd_of (rs := List.replicate 12 none) rfl (by decide) (by decide) fun o ho => by rw [List.eq_of_mem_replicate ho]; trivial
theorem rd_unit : RD (.tup [.tup [.int 1, .int 0]]) := rd_of (rs := [some (1, 0)]) rfl (by decide) (by decide) fun o ho => by rw [List.mem_singleton.mp ho]; exact ⟨by decide, by decide, by decide⟩
end L2.Pd.K23
set_option maxHeartbeats 1000000
namespace L2.Pd.K23
open PySem PySem.Spec PyProof.Rows L2 L2.Pd
theorem rep_non : repD [.tup [.non], .int 12] = some (.tup (List.replicate 12 [D.non]).flatten, false) := rfl
theorem pow59 : okPow 10 59 := ⟨by decide, by decide, by decide⟩
theorem right_ok {n : Nat} {st : List (List Int)} (h : PS n st) : FOk f__law_right [.box n] st fun t _ => t = (.bl true, false) := by
  unfold f__law_right b__law_right
  rw [fok_mk]
  refine ⟨rfl, ?_⟩
  simp [pow59]
  refine (take_ok h (by decide) (by decide)).mono ?_
  rintro t st1 ⟨hP1, v, rfl, v0, v1⟩
  simp [freeE]
  rw [rangeD_eq]
  refine ⟨small62_of (by decide) (by decide), ?_⟩
  refine lcL_st (fun i acc st => PS n st ∧ ∀ d ∈ acc, RD d) ⟨hP1, by simp⟩ ?_ ?_
  · rintro i k acc st hk _ ⟨hP, hA⟩
    simp [wipeE]
    refine (drawn_ok hP).mono ?_
    rintro t st1 ⟨hP1, d, rfl, hd⟩
    refine ⟨hP1, fun x hx => ?_⟩
    rcases hx with hx | rfl
    · exact hA x hx
    · obtain ⟨rs, rfl, hr⟩ := rl_rs hd
      exact ⟨rs, rfl, hr⟩
  · rintro acc st E hE la ⟨hP, hA⟩
    rw [hE]
    simp at la
    simp [rep_non]
    have h2 : RD (.tup [D.non, D.non, D.non, D.non, D.non, D.non, D.non, D.non, D.non, D.non, D.non, D.non]) := rd_nons
    have h4 : RD (.tup [.tup [.int (100000000000000000000000000000000000000000000000000000000000 + v), .int 100000000000000000000000000000000000000000000000000000000000], .non, .tup [.int 1, .int 0]]) := rd_great v0 v1
    generalize D.tup [D.non, D.non, D.non, D.non, D.non, D.non, D.non, D.non, D.non, D.non, D.non, D.non] = X2 at h2 ⊢
    generalize D.tup [.tup [.int (100000000000000000000000000000000000000000000000000000000000 + v), .int 100000000000000000000000000000000000000000000000000000000000], .non, .tup [.int 1, .int 0]] = X4 at h4 ⊢
    rw [cut_take (by decide)]
    have hL : ∀ d ∈ acc ++ [D.tup [.non], X2, .tup [.tup [.int 1, .int 0]], X4], RD d := fun d hd => by
      rcases List.mem_append.mp hd with hd | hd
      · exact hA d hd
      · simp only [List.mem_cons, List.not_mem_nil, or_false] at hd
        rcases hd with rfl | rfl | rfl | rfl
        · exact rd_non
        · exact h2
        · exact rd_unit
        · exact h4
    refine ⟨by omega, by omega, ?_, ?_⟩
    · rw [List.length_take]; simp; omega
    have hall : ∀ d ∈ acc ++ D.tup [.non] :: X2 :: .tup [.tup [.int 1, .int 0]] :: X4 :: (acc ++ [D.tup [.non], X2, .tup [.tup [.int 1, .int 0]], X4]).take (1 : Int).toNat, RD d := fun d hd => by
      have e : acc ++ D.tup [.non] :: X2 :: .tup [.tup [.int 1, .int 0]] :: X4 :: (acc ++ [D.tup [.non], X2, .tup [.tup [.int 1, .int 0]], X4]).take (1 : Int).toNat = (acc ++ [D.tup [.non], X2, .tup [.tup [.int 1, .int 0]], X4]) ++ (acc ++ [D.tup [.non], X2, .tup [.tup [.int 1, .int 0]], X4]).take (1 : Int).toNat := by simp
      rw [e] at hd
      rcases List.mem_append.mp hd with hd | hd
      · exact hL d hd
      · exact hL d (List.mem_of_mem_take hd)
    generalize acc ++ D.tup [.non] :: X2 :: .tup [.tup [.int 1, .int 0]] :: X4 :: (acc ++ [D.tup [.non], X2, .tup [.tup [.int 1, .int 0]], X4]).take (1 : Int).toNat = LL at hall ⊢
    generalize (some (D.lst (acc ++ [D.tup [.non], X2, .tup [.tup [.int 1, .int 0]], X4]), true) : Option DB) = O3
    obtain ⟨I, hI⟩ : ∃ I : Nat → S → Prop, ∀ i s, I i s ↔ ∃ (o0 o1 o2 o3 x4 x5 o6 : Option DB) (st : List (List Int)), s = ⟨[o0, o1, o2, o3, x4, x5, o6], st⟩ := ⟨_, fun _ _ => Iff.rfl⟩
    refine ok_forL I _ ((hI _ _).mpr ⟨_, _, _, _, _, _, _, _, rfl⟩) ?_ ?_
    · intro i d s hd hi
      obtain ⟨o0, o1, o2, o3, x4, x5, o6, st, rfl⟩ := (hI _ _).mp hi
      obtain ⟨rs, rfl, hr⟩ := hall d (List.mem_of_getElem? hd)
      simp
      refine (words_ok hr).mono ?_
      rintro t st' ⟨rfl, rfl⟩
      simp
      refine (show_ok hr).to ?_
      simp [pickS, Sel.get]
      refine (show_ok hr).to ?_
      simp [ne_two]
      refine (read_ok hr).to ?_
      simp [pickS, Sel.get]
      refine (read_ok hr).to ?_
      obtain ⟨x, hx⟩ := repr_two hr
      simp [hx]
      exact (hI _ _).mpr ⟨_, _, _, _, _, _, _, _, rfl⟩
    · intro s hi
      obtain ⟨o0, o1, o2, o3, x4, x5, o6, st, rfl⟩ := (hI _ _).mp hi
      simp
theorem law_ok {ns : List Int} (hn : ns.length ≤ 63) : FOk f_law [.lst (ns.map D.int)] [] fun t _ => t = (.bl true, false) := by
  unfold f_law b_law
  rw [fok_mk]
  refine ⟨rfl, ?_⟩
  simp [freeE]
  refine ⟨small62_of (by split <;> split <;> omega) (by split <;> split <;> omega), ?_⟩
  rw [rangeD_eq]
  refine lcL_st (fun i acc st => ∀ d ∈ acc, d = .bl true) (by simp) ?_ ?_
  · rintro i k acc st hk _ hA
    have hk := List.mem_range.mp (List.mem_of_getElem? hk)
    simp [wipeE]
    refine (cell_ok (by omega) (by omega)).mono ?_
    rintro t st1 ⟨v, rfl⟩
    refine purse_ok.mono ?_
    rintro t st2 ⟨n, rfl, hP⟩
    refine (right_ok hP).mono ?_
    rintro t st3 rfl
    exact fun d hd => hd.elim (hA d) id
  · rintro acc st E hE la hA
    rw [hE]
    simp at la
    simp [all_true hA]
    omega
theorem law_all (ns : List Int) (hn : ns.length ≤ 63) : ∃ t st, f_law [.lst (ns.map D.int)] [] = .ok t st ∧ t.1 = .bl true ∧ t.2 = false := by
  obtain ⟨t, st, e, rfl⟩ := (law_ok hn).out
  exact ⟨_, _, e, rfl, rfl⟩
end L2.Pd.K23
theorem PySem.Challenge.cw_endlessinn_k23_rule_texts_holds : PySem.Challenge.rw_endlessinn_k23_rule_texts.Holds := by
  exact L2.Pd.K23.holds_of L2.Pd.K23.law_all
