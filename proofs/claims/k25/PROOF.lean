import PyProof.Rows.All
import Wide.All
import OpenK.AllK
import Wide.FinOn
import HandS.ForMost
import HandS.Exc
import HandS.Nested
import HandS.TupAny
import HandS.Wide
import HandS.WideBits
import HandS.Style
import HandS.Flow
import HandS.IsInst
import HandS.Zip
import HandS.NoneIn
import HandS.WordsExc
import HandS.ExcOwn
import HandS.Defaults
import HandS.CallSlots
import HandS.ExcInit
import KE.KExcSuper
import KE.KExcMake
import HandS.HeadWalk
import HandS.TryOnly
import HandS.ExcIs
import HandS.ExcField
import HandS.Star
import HandS.Conv
import HandS.More
import HandS.Dict
import HandS.TupSets
import HandS.HeadHook4
import KE.SortData
import KE.DatumOrd
import HandS.Text
import HandS.Replace
import KE.DataCmp
import PySem.Challenge.RW_sameoneverygraph_k25_whole_graphs_as_tex
import KE.KStateDown
import HandS.Head0
import HandS.Head1
import HandS.Head2
import HandS.EndTab
import KE.IntTextLaws
import PyProof.StrLawsRepr
section
set_option Elab.async false
set_option linter.all false
set_option maxRecDepth 100000
set_option maxHeartbeats 1000000
/-! DL, part 1: data; what stands for data in the heap; readings by functions on data. -/
namespace DL
open PySem PySem.Spec PyProof.Rows L2

/-- a value as data: tuples and lists that nobody changes by value, lists that are changed by a number -/
inductive D where
  | non | bl (b : Bool) | int (i : Int) | str (s : Str)
  | tup (ds : List D) | lst (ds : List D) | scr (ds : List D) | dic (ks : List Str) (vs : List D)
  | exc (c : Nat) (v : D)
  | fn (k : Nat)
  | clo (k : Nat) (ds : List D)
  | ref (n : Nat)
/-- an object that is changed -/
inductive O where
  | lst (ds : List D)
abbrev Sto := List O
abbrev En := List (Option D)
/-- how a reckoning ends -/
inductive R (α : Type) where
  | ok (a : α) (S : Sto)
  | err (x : D) (S : Sto)
  | stuck
def R.bind {α β : Type} (r : R α) (f : α → Sto → R β) : R β := match r with
  | .ok a S => f a S
  | .err x S => .err x S
  | .stuck => .stuck

/-- what the text's own objects are: the written part, where defs and classes stand, what a made function at an address is -/
structure Mp where
  K : PySem.W.Frag
  fa : Nat → Addr
  ca : Nat → Addr
  clo : Nat → Hp → Addr → List V → Prop
  tabs : Hp → Prop

/-- objects that nobody changes -/
def Imm : HO → Bool
  | .tup _ => true
  | .ext _ => true
  | .frz _ _ => true
  | .xd _ => true
  | .met _ _ => true
  | .rng _ _ => true
  | _ => false
def notTbl : HO → Bool
  | .tbl _ => false
  | _ => true

/-- an exception object of the class at C with the own dict d -/
def ExT (C d a : Addr) : HO := .ext fun h => ∃ (oe : Obj) (vs : Array Value), h.get? a = some oe ∧ oe.cls = .ref C ∧ oe.dict = some d ∧ oe.data = .fields vs
def xFs (v : V) : List (Str × V) := [("value", v)]

/-- the script: locked, or written -/
def ScrAt (K : PySem.W.Frag) (H : Hp) (a : Addr) (xs : List V) : Prop := (∃ o, H a = some (.frz o (.lst xs))) ∨
    ∃ (o : Obj) (its : Array Value) (n : Nat), K.lookup a = some o ∧ o.cls = .type "list" ∧ o.dict = none ∧ o.data = .seq its n ∧ its.size ≤ sizeLine ∧ Vals xs its.toList
mutual
def Rep (M : Mp) (φ ψ : List Addr) (H : Hp) : D → V → Prop
  | .non, v => v = .non
  | .bl b, v => v = .bl b
  | .int i, v => v = .int i
  | .str s, v => v = .str s
  | .tup ds, v => ∃ a xs, v = .ref a ∧ SqT M.K H a xs ∧ RepL M φ ψ H ds xs
  | .lst ds, v => ∃ a xs, v = .ref a ∧ a ∉ φ ∧ a ∉ ψ ∧ H a = some (.lst xs) ∧ RepL M φ ψ H ds xs
  | .scr ds, v => ∃ a xs, v = .ref a ∧ ScrAt M.K H a xs ∧ RepL M φ ψ H ds xs
  | .dic ks ds, v => ∃ a xs, v = .ref a ∧ a ∉ φ ∧ a ∉ ψ ∧ H a = some (.dK ((ks.map Sum.inr).zip xs)) ∧ ks.length = xs.length ∧ RepL M φ ψ H ds xs
  | .exc c w, v => ∃ a d x, v = .ref a ∧ H a = some (ExT (M.ca c) d a) ∧ H d = some (.xd (xFs x)) ∧ Rep M φ ψ H w x
  | .fn k, v => v = .ref (M.fa k)
  | .clo k ds, v => ∃ f xs, v = .ref f ∧ M.clo k H f xs ∧ RepL M φ ψ H ds xs
  | .ref n, v => ∃ a, v = .ref a ∧ φ[n]? = some a
def RepL (M : Mp) (φ ψ : List Addr) (H : Hp) : List D → List V → Prop
  | [], vs => vs = []
  | d :: ds, vs => ∃ x xs, vs = x :: xs ∧ Rep M φ ψ H d x ∧ RepL M φ ψ H ds xs
end

/-- later: more objects that are changed (new ones), all others as they were -/
structure Ext (φ : List Addr) (H : Hp) (φ' : List Addr) (H' : Hp) : Prop where
  pre : ∃ χ, φ' = φ ++ χ ∧ ∀ a ∈ χ, H a = none
  keep : ∀ b o, H b = some o → b ∉ φ → notTbl o = true → H' b = some o
  imm : ∀ b o, H b = some o → Imm o = true → H' b = some o
  dom : ∀ b, H b ≠ none → H' b ≠ none

theorem Ext.refl (φ : List Addr) (H : Hp) : Ext φ H φ H := ⟨⟨[], by simp, by simp⟩, fun _ _ h _ _ => h, fun _ _ h _ => h, fun _ h => h⟩
theorem Ext.trans {φ φ1 φ2 : List Addr} {H H1 H2 : Hp} (e : Ext φ H φ1 H1) (f : Ext φ1 H1 φ2 H2) : Ext φ H φ2 H2 := by
  obtain ⟨χ, rfl, hn⟩ := e.pre
  obtain ⟨χ', rfl, hn'⟩ := f.pre
  refine ⟨⟨χ ++ χ', by simp, fun a ha => ?_⟩, fun b o h hb ht => ?_, fun b o h hi => f.imm b o (e.imm b o h hi) hi, fun b h => f.dom b (e.dom b h)⟩
  · rcases List.mem_append.mp ha with z | z
    · exact hn a z
    · cases q : H a with
      | none => rfl
      | some o => exact absurd (hn' a z) (e.dom a (by rw [q]; simp))
  · refine f.keep b o (e.keep b o h hb ht) (fun hm => ?_) ht
    rcases List.mem_append.mp hm with z | z
    · exact hb z
    · rw [hn b z] at h; cases h
theorem Ext.mem {φ φ' : List Addr} {H H' : Hp} (e : Ext φ H φ' H') {a : Addr} (h : a ∉ φ) (hn : H a ≠ none) : a ∉ φ' := by
  obtain ⟨χ, rfl, hχ⟩ := e.pre
  intro hm
  rcases List.mem_append.mp hm with z | z
  · exact h z
  · exact hn (hχ a z)
theorem Ext.get {φ φ' : List Addr} {H H' : Hp} (e : Ext φ H φ' H') {n : Nat} {a : Addr} (h : φ[n]? = some a) : φ'[n]? = some a := by
  obtain ⟨χ, rfl, _⟩ := e.pre
  rw [List.getElem?_append_left (List.getElem?_eq_some_iff.mp h).1]
  exact h
theorem rd_some {H : Hp} {a : Addr} {u : HO} (r : Rd H a u) : H a ≠ none := by
  rcases r with r | ⟨o, r⟩ <;> rw [r] <;> simp
theorem Ext.rd {φ φ' : List Addr} {H H' : Hp} (e : Ext φ H φ' H') {a : Addr} {u : HO} (r : Rd H a u) (h : a ∉ φ) (ht : notTbl u = true) : Rd H' a u := by
  rcases r with r | ⟨o, r⟩
  · exact .inl (e.keep a u r h ht)
  · exact .inr ⟨o, e.imm a _ r rfl⟩
theorem Ext.sqT {K : PySem.W.Frag} {φ φ' : List Addr} {H H' : Hp} (e : Ext φ H φ' H') {a : Addr} {xs : List V} (r : SqT K H a xs) : SqT K H' a xs := by
  rcases r with (r | ⟨o, r⟩) | r
  · exact .inl (.inl (e.imm a _ r rfl))
  · exact .inl (.inr ⟨o, e.imm a _ r rfl⟩)
  · exact .inr r

theorem Ext.scr {K : PySem.W.Frag} {φ φ' : List Addr} {H H' : Hp} (e : Ext φ H φ' H') {a : Addr} {xs : List V} (r : ScrAt K H a xs) : ScrAt K H' a xs := by
  rcases r with ⟨o, r⟩ | r
  · exact .inl ⟨o, e.imm a _ r rfl⟩
  · exact .inr r
theorem ScrAt.sq {K : PySem.W.Frag} {H : Hp} {a : Addr} {xs : List V} (r : ScrAt K H a xs) : SqL K H a xs := by
  rcases r with r | r
  · exact .inl (.inr r)
  · exact .inr r

/-- no captured cell -/
def notCell : HO → Bool
  | .frz _ (.ext _) => false
  | _ => true
/-- what an Mp must bear -/
structure Mp.Ok (M : Mp) : Prop where
  clo : ∀ k H H' f xs, M.clo k H f xs → (∀ b o, H b = some o → Imm o = true → H' b = some o) → M.clo k H' f xs
  tabs : ∀ H H', M.tabs H → (∀ b o, H b = some o → notCell o = true → H' b = some o) → M.tabs H'
  put : ∀ H H' a u v, M.tabs H → H a = some u → notTbl u = true → Imm u = false → (H' = upd H a (.lst v)) → M.tabs H'

section
variable {M : Mp} {φ φ' ψ ψ' : List Addr} {H H' : Hp}
mutual
theorem Rep.mono (ok : M.Ok) (e : Ext φ H φ' H') : ∀ (d : D) (v : V), Rep M φ ψ H d v → Rep M φ' ψ H' d v
  | .non, v, h => by simpa only [Rep] using h
  | .bl b, v, h => by simpa only [Rep] using h
  | .int i, v, h => by simpa only [Rep] using h
  | .str s, v, h => by simpa only [Rep] using h
  | .tup ds, v, h => by
    simp only [Rep] at h ⊢
    obtain ⟨a, xs, rfl, h1, h2⟩ := h
    exact ⟨a, xs, rfl, e.sqT h1, RepL.mono ok e ds xs h2⟩
  | .lst ds, v, h => by
    simp only [Rep] at h ⊢
    obtain ⟨a, xs, rfl, h1, h2, h3, h4⟩ := h
    exact ⟨a, xs, rfl, e.mem h1 (by rw [h3]; simp), h2, e.keep _ _ h3 h1 rfl, RepL.mono ok e ds xs h4⟩
  | .scr ds, v, h => by
    simp only [Rep] at h ⊢
    obtain ⟨a, xs, rfl, h1, h2⟩ := h
    exact ⟨a, xs, rfl, e.scr h1, RepL.mono ok e ds xs h2⟩
  | .dic ks ds, v, h => by
    simp only [Rep] at h ⊢
    obtain ⟨a, xs, rfl, h1, h2, h3, h5, h4⟩ := h
    exact ⟨a, xs, rfl, e.mem h1 (by rw [h3]; simp), h2, e.keep _ _ h3 h1 rfl, h5, RepL.mono ok e ds xs h4⟩
  | .exc c w, v, h => by
    simp only [Rep] at h ⊢
    obtain ⟨a, d, x, rfl, h1, h2, h3⟩ := h
    exact ⟨a, d, x, rfl, e.imm _ _ h1 rfl, e.imm _ _ h2 rfl, Rep.mono ok e w x h3⟩
  | .fn k, v, h => by simpa only [Rep] using h
  | .clo k ds, v, h => by
    simp only [Rep] at h ⊢
    obtain ⟨f, xs, rfl, h1, h2⟩ := h
    exact ⟨f, xs, rfl, ok.clo k H H' f xs h1 e.imm, RepL.mono ok e ds xs h2⟩
  | .ref n, v, h => by
    simp only [Rep] at h ⊢
    obtain ⟨a, rfl, h1⟩ := h
    exact ⟨a, rfl, e.get h1⟩
theorem RepL.mono (ok : M.Ok) (e : Ext φ H φ' H') : ∀ (ds : List D) (vs : List V), RepL M φ ψ H ds vs → RepL M φ' ψ H' ds vs
  | [], vs, h => by simpa only [RepL] using h
  | d :: ds, vs, h => by
    simp only [RepL] at h ⊢
    obtain ⟨x, xs, rfl, h1, h2⟩ := h
    exact ⟨x, xs, rfl, Rep.mono ok e d x h1, RepL.mono ok e ds xs h2⟩
end
mutual
/-- fewer addresses to be avoided -/
theorem Rep.avoid (hs : ∀ a, a ∉ φ → a ∉ ψ → a ∉ φ' ∧ a ∉ ψ') (hp : ∀ (n : Nat) (a : Addr), φ[n]? = some a → φ'[n]? = some a) : ∀ (d : D) (v : V), Rep M φ ψ H d v → Rep M φ' ψ' H d v
  | .non, v, h => by simpa only [Rep] using h
  | .bl b, v, h => by simpa only [Rep] using h
  | .int i, v, h => by simpa only [Rep] using h
  | .str s, v, h => by simpa only [Rep] using h
  | .tup ds, v, h => by
    simp only [Rep] at h ⊢
    obtain ⟨a, xs, rfl, h1, h2⟩ := h
    exact ⟨a, xs, rfl, h1, RepL.avoid hs hp ds xs h2⟩
  | .lst ds, v, h => by
    simp only [Rep] at h ⊢
    obtain ⟨a, xs, rfl, h1, h2, h3, h4⟩ := h
    exact ⟨a, xs, rfl, (hs a h1 h2).1, (hs a h1 h2).2, h3, RepL.avoid hs hp ds xs h4⟩
  | .scr ds, v, h => by
    simp only [Rep] at h ⊢
    obtain ⟨a, xs, rfl, h1, h2⟩ := h
    exact ⟨a, xs, rfl, h1, RepL.avoid hs hp ds xs h2⟩
  | .dic ks ds, v, h => by
    simp only [Rep] at h ⊢
    obtain ⟨a, xs, rfl, h1, h2, h3, h5, h4⟩ := h
    exact ⟨a, xs, rfl, (hs a h1 h2).1, (hs a h1 h2).2, h3, h5, RepL.avoid hs hp ds xs h4⟩
  | .exc c w, v, h => by
    simp only [Rep] at h ⊢
    obtain ⟨a, d, x, rfl, h1, h2, h3⟩ := h
    exact ⟨a, d, x, rfl, h1, h2, Rep.avoid hs hp w x h3⟩
  | .fn k, v, h => by simpa only [Rep] using h
  | .clo k ds, v, h => by
    simp only [Rep] at h ⊢
    obtain ⟨f, xs, rfl, h1, h2⟩ := h
    exact ⟨f, xs, rfl, h1, RepL.avoid hs hp ds xs h2⟩
  | .ref n, v, h => by
    simp only [Rep] at h ⊢
    obtain ⟨a, rfl, h1⟩ := h
    exact ⟨a, rfl, hp n a h1⟩
theorem RepL.avoid (hs : ∀ a, a ∉ φ → a ∉ ψ → a ∉ φ' ∧ a ∉ ψ') (hp : ∀ (n : Nat) (a : Addr), φ[n]? = some a → φ'[n]? = some a) : ∀ (ds : List D) (vs : List V), RepL M φ ψ H ds vs → RepL M φ' ψ' H ds vs
  | [], vs, h => by simpa only [RepL] using h
  | d :: ds, vs, h => by
    simp only [RepL] at h ⊢
    obtain ⟨x, xs, rfl, h1, h2⟩ := h
    exact ⟨x, xs, rfl, Rep.avoid hs hp d x h1, RepL.avoid hs hp ds xs h2⟩
end

theorem RepL.length : ∀ {ds : List D} {vs : List V}, RepL M φ ψ H ds vs → ds.length = vs.length
  | [], vs, h => by simp only [RepL] at h; subst h; rfl
  | d :: ds, vs, h => by
    simp only [RepL] at h
    obtain ⟨x, xs, rfl, _, h2⟩ := h
    simp [RepL.length h2]
theorem RepL.get : ∀ {ds : List D} {vs : List V} {i : Nat} {d : D}, RepL M φ ψ H ds vs → ds[i]? = some d → ∃ v, vs[i]? = some v ∧ Rep M φ ψ H d v
  | [], vs, i, d, h, e => by simp at e
  | d0 :: ds, vs, i, d, h, e => by
    simp only [RepL] at h
    obtain ⟨x, xs, rfl, h1, h2⟩ := h
    cases i with
    | zero => simp at e; subst e; exact ⟨x, rfl, h1⟩
    | succ i =>
      obtain ⟨v, e1, e2⟩ := RepL.get (i := i) h2 (by simpa using e)
      exact ⟨v, by simpa using e1, e2⟩
theorem RepL.nil : RepL M φ ψ H [] [] := by simp only [RepL]
theorem RepL.cons {d : D} {ds : List D} {v : V} {vs : List V} (h : Rep M φ ψ H d v) (t : RepL M φ ψ H ds vs) : RepL M φ ψ H (d :: ds) (v :: vs) := by
  simp only [RepL]; exact ⟨v, vs, rfl, h, t⟩
theorem RepL.append : ∀ {ds es : List D} {vs ws : List V}, RepL M φ ψ H ds vs → RepL M φ ψ H es ws → RepL M φ ψ H (ds ++ es) (vs ++ ws)
  | [], es, vs, ws, h, t => by simp only [RepL] at h; subst h; exact t
  | d :: ds, es, vs, ws, h, t => by
    simp only [RepL] at h
    obtain ⟨x, xs, rfl, h1, h2⟩ := h
    exact .cons h1 (RepL.append h2 t)
theorem RepL.take : ∀ {ds : List D} {vs : List V} (n : Nat), RepL M φ ψ H ds vs → RepL M φ ψ H (ds.take n) (vs.take n)
  | _, _, 0, _ => by simpa using RepL.nil
  | [], vs, n + 1, h => by simp only [RepL] at h; subst h; simpa using RepL.nil
  | d :: ds, vs, n + 1, h => by
    simp only [RepL] at h
    obtain ⟨x, xs, rfl, h1, h2⟩ := h
    exact .cons h1 (RepL.take n h2)
theorem RepL.drop : ∀ {ds : List D} {vs : List V} (n : Nat), RepL M φ ψ H ds vs → RepL M φ ψ H (ds.drop n) (vs.drop n)
  | _, _, 0, h => by simpa using h
  | [], vs, n + 1, h => by simp only [RepL] at h; subst h; simpa using RepL.nil
  | d :: ds, vs, n + 1, h => by
    simp only [RepL] at h
    obtain ⟨x, xs, rfl, h1, h2⟩ := h
    exact RepL.drop n h2
theorem RepL.set : ∀ {ds : List D} {vs : List V} (n : Nat) {d : D} {v : V}, RepL M φ ψ H ds vs → Rep M φ ψ H d v → RepL M φ ψ H (ds.set n d) (vs.set n v)
  | [], vs, n, d, v, h, r => by simp only [RepL] at h; subst h; simpa using RepL.nil
  | d0 :: ds, vs, n, d, v, h, r => by
    simp only [RepL] at h
    obtain ⟨x, xs, rfl, h1, h2⟩ := h
    cases n with
    | zero => exact .cons r h2
    | succ n => exact .cons h1 (RepL.set n h2 r)
theorem RepL.reverse : ∀ {ds : List D} {vs : List V}, RepL M φ ψ H ds vs → RepL M φ ψ H ds.reverse vs.reverse
  | [], vs, h => by simp only [RepL] at h; subst h; simpa using RepL.nil
  | d :: ds, vs, h => by
    simp only [RepL] at h
    obtain ⟨x, xs, rfl, h1, h2⟩ := h
    simpa using (RepL.reverse h2).append (.cons h1 .nil)
end

section
variable {M : Mp} {φ ψ : List Addr} {H : Hp} {a : Addr}
mutual
/-- a place where nothing stands is no place of ours -/
theorem Rep.fresh (hn : H a = none) : ∀ (d : D) (v : V), Rep M φ ψ H d v → Rep M φ (a :: ψ) H d v
  | .non, v, h => by simpa only [Rep] using h
  | .bl b, v, h => by simpa only [Rep] using h
  | .int i, v, h => by simpa only [Rep] using h
  | .str s, v, h => by simpa only [Rep] using h
  | .tup ds, v, h => by
    simp only [Rep] at h ⊢
    obtain ⟨b, xs, rfl, h1, h2⟩ := h
    exact ⟨b, xs, rfl, h1, RepL.fresh hn ds xs h2⟩
  | .lst ds, v, h => by
    simp only [Rep] at h ⊢
    obtain ⟨b, xs, rfl, h1, h2, h3, h4⟩ := h
    exact ⟨b, xs, rfl, h1, by simp only [List.mem_cons, not_or]; exact ⟨ne_of_none h3 hn, h2⟩, h3, RepL.fresh hn ds xs h4⟩
  | .scr ds, v, h => by
    simp only [Rep] at h ⊢
    obtain ⟨b, xs, rfl, h1, h2⟩ := h
    exact ⟨b, xs, rfl, h1, RepL.fresh hn ds xs h2⟩
  | .dic ks ds, v, h => by
    simp only [Rep] at h ⊢
    obtain ⟨b, xs, rfl, h1, h2, h3, h5, h4⟩ := h
    exact ⟨b, xs, rfl, h1, by simp only [List.mem_cons, not_or]; exact ⟨ne_of_none h3 hn, h2⟩, h3, h5, RepL.fresh hn ds xs h4⟩
  | .exc c w, v, h => by
    simp only [Rep] at h ⊢
    obtain ⟨b, d, x, rfl, h1, h2, h3⟩ := h
    exact ⟨b, d, x, rfl, h1, h2, Rep.fresh hn w x h3⟩
  | .fn k, v, h => by simpa only [Rep] using h
  | .clo k ds, v, h => by
    simp only [Rep] at h ⊢
    obtain ⟨f, xs, rfl, h1, h2⟩ := h
    exact ⟨f, xs, rfl, h1, RepL.fresh hn ds xs h2⟩
  | .ref n, v, h => by simpa only [Rep] using h
theorem RepL.fresh (hn : H a = none) : ∀ (ds : List D) (vs : List V), RepL M φ ψ H ds vs → RepL M φ (a :: ψ) H ds vs
  | [], vs, h => by simpa only [RepL] using h
  | d :: ds, vs, h => by
    simp only [RepL] at h ⊢
    obtain ⟨x, xs, rfl, h1, h2⟩ := h
    exact ⟨x, xs, rfl, Rep.fresh hn d x h1, RepL.fresh hn ds xs h2⟩
end
end
/-- a changed object -/
def ORep (M : Mp) (φ ψ : List Addr) (H : Hp) : O → Addr → Prop
  | .lst ds, a => ∃ xs, H a = some (.lst xs) ∧ RepL M φ ψ H ds xs
theorem ORep.mut {M : Mp} {φ ψ : List Addr} {H : Hp} {o : O} {a : Addr} (h : ORep M φ ψ H o a) : ∃ u, H a = some u ∧ Imm u = false ∧ notTbl u = true ∧ Mut (some u) := by
  cases o with
  | lst ds => obtain ⟨xs, e, _⟩ := h; exact ⟨_, e, rfl, rfl, trivial⟩

structure SRel (M : Mp) (φ ψ : List Addr) (S : Sto) (H : Hp) : Prop where
  len : φ.length = S.length
  nd : φ.Nodup
  dis : ∀ a ∈ φ, a ∉ ψ
  av : ∀ a ∈ ψ, ∃ u, H a = some u ∧ notTbl u = true ∧ notCell u = true
  obj : ∀ (n : Nat) (a : Addr) (o : O), φ[n]? = some a → S[n]? = some o → ORep M φ ψ H o a
  tabs : M.tabs H
  ok : M.Ok
theorem SRel.at {M : Mp} {φ ψ : List Addr} {S : Sto} {H : Hp} (s : SRel M φ ψ S H) {n : Nat} {o : O} (e : S[n]? = some o) : ∃ a, φ[n]? = some a ∧ ORep M φ ψ H o a := by
  have hn : n < φ.length := by rw [s.len]; exact (List.getElem?_eq_some_iff.mp e).1
  exact ⟨φ[n], List.getElem?_eq_getElem hn, s.obj n _ o (List.getElem?_eq_getElem hn) e⟩
theorem SRel.mem {M : Mp} {φ ψ : List Addr} {S : Sto} {H : Hp} (s : SRel M φ ψ S H) {a : Addr} (h : a ∈ φ) : ∃ (n : Nat) (o : O), φ[n]? = some a ∧ S[n]? = some o ∧ ORep M φ ψ H o a := by
  obtain ⟨n, hn, e⟩ := List.mem_iff_getElem.mp h
  have hs : n < S.length := by rw [← s.len]; exact hn
  have e1 : φ[n]? = some a := by rw [List.getElem?_eq_getElem hn, e]
  exact ⟨n, S[n], e1, List.getElem?_eq_getElem hs, s.obj n a _ e1 (List.getElem?_eq_getElem hs)⟩
theorem SRel.notIn {M : Mp} {φ ψ : List Addr} {S : Sto} {H : Hp} (s : SRel M φ ψ S H) {a : Addr} (h : H a = none) : a ∉ φ ∧ a ∉ ψ := by
  refine ⟨fun hm => ?_, fun hm => by obtain ⟨u, e, _⟩ := s.av a hm; rw [h] at e; cases e⟩
  obtain ⟨n, o, _, _, r⟩ := s.mem hm
  obtain ⟨u, e, _⟩ := r.mut
  rw [h] at e; cases e

/-- a new object is laid, tracked, not to be changed by us -/
theorem Ext.laid {M : Mp} {φ ψ : List Addr} {S : Sto} {H : Hp} (s : SRel M φ ψ S H) {a : Addr} {o : HO} (h : H a = none) : Ext φ H φ (upd H a o) := by
  have ne : ∀ b, H b ≠ none → b ≠ a := fun b hb z => hb (z ▸ h)
  refine ⟨⟨[], by simp, by simp⟩, fun b u e _ _ => ?_, fun b u e _ => ?_, fun b hb => ?_⟩
  · rw [upd_ne (ne b (by rw [e]; simp))]; exact e
  · rw [upd_ne (ne b (by rw [e]; simp))]; exact e
  · rw [upd_ne (ne b hb)]; exact hb
theorem ORep.mono {M : Mp} {φ φ' ψ : List Addr} {H H' : Hp} (ok : M.Ok) (e : Ext φ H φ' H') {o : O} {a : Addr} (r : ORep M φ ψ H o a) (k : ∀ u, H a = some u → H' a = some u) : ORep M φ' ψ H' o a := by
  cases o with
  | lst ds => obtain ⟨xs, e1, e2⟩ := r; exact ⟨xs, k _ e1, RepL.mono ok e _ _ e2⟩
/-- all tracked objects stay -/
theorem SRel.grow {M : Mp} {φ ψ : List Addr} {S : Sto} {H H' : Hp} (s : SRel M φ ψ S H) (k : ∀ b u, H b = some u → H' b = some u) : Ext φ H φ H' ∧ SRel M φ ψ S H' := by
  have e : Ext φ H φ H' := ⟨⟨[], by simp, by simp⟩, fun b u e _ _ => k b u e, fun b u e _ => k b u e, fun b hb => by
    cases q : H b with
    | none => exact absurd q hb
    | some u => rw [k b u q]; simp⟩
  exact ⟨e, s.len, s.nd, s.dis, fun a ha => let ⟨u, q1, q2⟩ := s.av a ha; ⟨u, k _ _ q1, q2⟩, fun n a o h1 h2 => (s.obj n a o h1 h2).mono s.ok e fun u => k a u, s.ok.tabs _ _ s.tabs fun b o h _ => k b o h, s.ok⟩
theorem SRel.laid {M : Mp} {φ ψ : List Addr} {S : Sto} {H : Hp} (s : SRel M φ ψ S H) {a : Addr} {o : HO} (h : H a = none) : Ext φ H φ (upd H a o) ∧ SRel M φ ψ S (upd H a o) :=
  s.grow fun b u e => by rw [upd_ne (ne_of_none e h)]; exact e

/-- a frame's slots -/
structure ERel (M : Mp) (φ ψ : List Addr) (H : Hp) (env : En) (σ : L2.St) : Prop where
  len : env.length = σ.length
  at_ : ∀ (i : Nat) (d : D), env[i]? = some (some d) → ∃ v, σ[i]? = some (some v) ∧ Rep M φ ψ H d v
theorem ERel.mono {M : Mp} {φ φ' ψ : List Addr} {H H' : Hp} {env : En} {σ : L2.St} (r : ERel M φ ψ H env σ) (ok : M.Ok) (e : Ext φ H φ' H') : ERel M φ' ψ H' env σ :=
  ⟨r.len, fun i d h => let ⟨v, h1, h2⟩ := r.at_ i d h; ⟨v, h1, Rep.mono ok e _ _ h2⟩⟩
theorem ERel.set {M : Mp} {φ ψ : List Addr} {H : Hp} {env : En} {σ : L2.St} (r : ERel M φ ψ H env σ) {i : Nat} {d : D} {v : V} (h : Rep M φ ψ H d v) : ERel M φ ψ H (env.set i (some d)) (σ.set i (some v)) := by
  refine ⟨by simpa using r.len, fun j e hj => ?_⟩
  by_cases hi : i = j
  · subst hi
    by_cases hl : i < env.length
    · rw [List.getElem?_set_self hl] at hj
      cases hj
      exact ⟨v, List.getElem?_set_self (by rw [← r.len]; exact hl), h⟩
    · rw [List.getElem?_eq_none (by simpa using hl)] at hj; cases hj
  · rw [List.getElem?_set_ne hi] at hj ⊢
    exact r.at_ j e hj
theorem ERel.unset {M : Mp} {φ ψ : List Addr} {H : Hp} {env : En} {σ : L2.St} (r : ERel M φ ψ H env σ) (i : Nat) : ERel M φ ψ H (env.set i none) (σ.set i none) := by
  refine ⟨by simpa using r.len, fun j e hj => ?_⟩
  by_cases hi : i = j
  · subst hi
    by_cases hl : i < env.length
    · rw [List.getElem?_set_self hl] at hj; cases hj
    · rw [List.getElem?_eq_none (by simpa using hl)] at hj; cases hj
  · rw [List.getElem?_set_ne hi] at hj ⊢
    exact r.at_ j e hj
theorem ORep.avoid {M : Mp} {φ φ' ψ ψ' : List Addr} {H : Hp} {o : O} {a : Addr} (hs : ∀ a, a ∉ φ → a ∉ ψ → a ∉ φ' ∧ a ∉ ψ') (hp : ∀ (n : Nat) (a : Addr), φ[n]? = some a → φ'[n]? = some a) (r : ORep M φ ψ H o a) : ORep M φ' ψ' H o a := by
  cases o with
  | lst ds => obtain ⟨xs, e, r⟩ := r; exact ⟨xs, e, RepL.avoid hs hp _ _ r⟩
theorem ORep.fresh {M : Mp} {φ ψ : List Addr} {H : Hp} {o : O} {a b : Addr} (hn : H b = none) (r : ORep M φ ψ H o a) : ORep M φ (b :: ψ) H o a := by
  cases o with
  | lst ds => obtain ⟨xs, e, r⟩ := r; exact ⟨xs, e, RepL.fresh hn _ _ r⟩
theorem ERel.fresh {M : Mp} {φ ψ : List Addr} {H : Hp} {env : En} {σ : L2.St} {a : Addr} (r : ERel M φ ψ H env σ) (hn : H a = none) : ERel M φ (a :: ψ) H env σ :=
  ⟨r.len, fun i d h => let ⟨v, h1, h2⟩ := r.at_ i d h; ⟨v, h1, Rep.fresh hn _ _ h2⟩⟩
theorem ERel.avoid {M : Mp} {φ φ' ψ ψ' : List Addr} {H : Hp} {env : En} {σ : L2.St} (hs : ∀ a, a ∉ φ → a ∉ ψ → a ∉ φ' ∧ a ∉ ψ') (hp : ∀ (n : Nat) (a : Addr), φ[n]? = some a → φ'[n]? = some a) (r : ERel M φ ψ H env σ) : ERel M φ' ψ' H env σ :=
  ⟨r.len, fun i d h => let ⟨v, h1, h2⟩ := r.at_ i d h; ⟨v, h1, Rep.avoid hs hp _ _ h2⟩⟩
/-- one address less is to be avoided -/
theorem SRel.drop {M : Mp} {φ ψ : List Addr} {S : Sto} {H : Hp} {a : Addr} (s : SRel M φ (a :: ψ) S H) : SRel M φ ψ S H :=
  ⟨s.len, s.nd, fun b hb hm => s.dis b hb (List.mem_cons_of_mem _ hm), fun b hb => s.av b (List.mem_cons_of_mem _ hb), fun n b o h1 h2 => (s.obj n b o h1 h2).avoid (fun c h1 h2 => ⟨h1, fun hm => h2 (List.mem_cons_of_mem _ hm)⟩) fun _ _ h => h, s.tabs, s.ok⟩
/-- a fresh list is ours to change -/
theorem SRel.own {M : Mp} {φ ψ : List Addr} {S : Sto} {H : Hp} {a : Addr} {ds : List D} {xs : List V} (s : SRel M φ (a :: ψ) S H) (ha : H a = some (.lst xs)) (hψ : a ∉ ψ) (r : RepL M φ (a :: ψ) H ds xs) : SRel M (φ ++ [a]) ψ (S ++ [.lst ds]) H := by
  have hφ : a ∉ φ := fun hm => s.dis a hm List.mem_cons_self
  have hs : ∀ b, b ∉ φ → b ∉ a :: ψ → b ∉ φ ++ [a] ∧ b ∉ ψ := fun b h1 h2 => by
    simp only [List.mem_cons, not_or] at h2
    exact ⟨by simp [h1, h2.1], h2.2⟩
  have hp : ∀ (n : Nat) (b : Addr), φ[n]? = some b → (φ ++ [a])[n]? = some b := fun n b e => by
    rw [List.getElem?_append_left (List.getElem?_eq_some_iff.mp e).1]; exact e
  refine ⟨by simp [s.len], ?_, fun b hb hm => ?_, fun b hb => s.av b (List.mem_cons_of_mem _ hb), fun n b o h1 h2 => ?_, s.tabs, s.ok⟩
  · refine List.nodup_append.mpr ⟨s.nd, by simp, fun b hb c hc => ?_⟩
    have e : c = a := by simpa using hc
    intro z
    rw [z, e] at hb
    exact hφ hb
  · rcases List.mem_append.mp hb with z | z
    · exact s.dis b z (List.mem_cons_of_mem _ hm)
    · have e : b = a := by simpa using z
      subst e
      exact hψ hm
  · by_cases hn : n < φ.length
    · rw [List.getElem?_append_left hn] at h1
      rw [List.getElem?_append_left (by rw [← s.len]; exact hn)] at h2
      exact (s.obj n b o h1 h2).avoid hs hp
    · have hl : n < (φ ++ [a]).length := (List.getElem?_eq_some_iff.mp h1).1
      have en : n = φ.length := by simp at hl; omega
      subst en
      rw [List.getElem?_append_right (Nat.le_refl _)] at h1
      rw [s.len, List.getElem?_append_right (Nat.le_refl _)] at h2
      simp at h1 h2
      subst h1 h2
      exact ⟨xs, ha, RepL.avoid hs hp _ _ r⟩
theorem Ext.own {φ φ' : List Addr} {H H' : Hp} {a : Addr} (e : Ext φ H φ' H') (hn : H a = none) : Ext φ H (φ' ++ [a]) H' := by
  obtain ⟨χ, rfl, hχ⟩ := e.pre
  refine ⟨⟨χ ++ [a], by simp, fun b hb => ?_⟩, e.keep, e.imm, e.dom⟩
  rcases List.mem_append.mp hb with z | z
  · exact hχ b z
  · have q : b = a := by simpa using z
    subst q
    exact hn
/-- an object of ours is changed -/
theorem SRel.put {M : Mp} {φ ψ : List Addr} {S : Sto} {H : Hp} {n : Nat} {a : Addr} {ds : List D} {xs : List V} {o : O} (s : SRel M φ ψ S H) (ha : φ[n]? = some a) (ho : S[n]? = some o) (r : RepL M φ ψ H ds xs) :
    Ext φ H φ (upd H a (.lst xs)) ∧ SRel M φ ψ (S.set n (.lst ds)) (upd H a (.lst xs)) := by
  obtain ⟨u, hu, hi, ht, _⟩ := (s.obj n a o ha ho).mut
  have hm : a ∈ φ := List.mem_of_getElem? ha
  have e : Ext φ H φ (upd H a (.lst xs)) := by
    refine ⟨⟨[], by simp, by simp⟩, fun b u' e hb _ => ?_, fun b u' e hi' => ?_, fun b hb => ?_⟩
    · rw [upd_ne (fun z => hb (by rw [z]; exact hm))]; exact e
    · rw [upd_ne (fun z => by rw [z, hu] at e; cases e; rw [hi] at hi'; cases hi')]; exact e
    · by_cases z : b = a
      · rw [z, upd_same]; simp
      · rw [upd_ne z]; exact hb
  refine ⟨e, by simp [s.len], s.nd, s.dis, fun b hb => let ⟨u, q1, q2⟩ := s.av b hb; ⟨u, e.keep b u q1 (fun hm => s.dis b hm hb) q2.1, q2⟩, fun m b o' h1 h2 => ?_, ?_, s.ok⟩
  · by_cases hmn : m = n
    · subst hmn
      rw [ha] at h1; cases h1
      rw [List.getElem?_set_self (List.getElem?_eq_some_iff.mp ho).1] at h2
      cases h2
      exact ⟨xs, upd_same, RepL.mono s.ok e _ _ r⟩
    · rw [List.getElem?_set_ne (Ne.symm hmn)] at h2
      have hab : b ≠ a := fun z => by
        subst z
        obtain ⟨l1, e1⟩ := List.getElem?_eq_some_iff.mp ha
        obtain ⟨l2, e2⟩ := List.getElem?_eq_some_iff.mp h1
        exact hmn ((List.getElem_inj s.nd).mp (e2.trans e1.symm))
      exact (s.obj m b o' h1 h2).mono s.ok e fun u' e' => by rw [upd_ne hab]; exact e'
  · exact s.ok.put _ _ a u _ s.tabs hu ht hi rfl
end DL
end

section
set_option Elab.async false
set_option linter.all false
set_option maxRecDepth 100000
set_option maxHeartbeats 1000000
/-! DL, part 2: readings by functions on data: expressions, arguments, fresh lists, tests. -/
namespace DL
open PySem PySem.Spec PyProof.Rows L2

@[simp] theorem R.bind_ok {α β : Type} (a : α) (S : Sto) (f : α → Sto → R β) : (R.ok a S).bind f = f a S := rfl
@[simp] theorem R.bind_err {α β : Type} (x : D) (S : Sto) (f : α → Sto → R β) : (R.err x S : R α).bind f = .err x S := rfl
@[simp] theorem R.bind_stuck {α β : Type} (f : α → Sto → R β) : (R.stuck : R α).bind f = .stuck := rfl
theorem R.bind_assoc {α β γ : Type} (r : R α) (f : α → Sto → R β) (g : β → Sto → R γ) : (r.bind f).bind g = r.bind fun a S => (f a S).bind g := by cases r <;> rfl

/-- an exception in the air -/
def RepX (M : Mp) (φ ψ : List Addr) (H : Hp) : D → Value → Option Addr → Prop
  | .exc c w, cls, od => cls = .ref (M.ca c) ∧ ∃ d x, od = some d ∧ H d = some (.xd (xFs x)) ∧ Rep M φ ψ H w x
  | _, _, _ => False
theorem RepX.mono {M : Mp} {φ φ' ψ : List Addr} {H H' : Hp} (ok : M.Ok) (e : Ext φ H φ' H') {x : D} {cls : Value} {od : Option Addr} (r : RepX M φ ψ H x cls od) : RepX M φ' ψ H' x cls od := by
  cases x with
  | exc c w => obtain ⟨h1, d, x, h2, h3, h4⟩ := r; exact ⟨h1, d, x, h2, e.imm _ _ h3 rfl, Rep.mono ok e _ _ h4⟩
  | _ => exact r.elim

/-- what a reckoned and a machine's value have to do with each other; H0: the heap ahead -/
structure Rp (M : Mp) (ψ : List Addr) (α β : Type) where
  rel : Hp → List Addr → Sto → Hp → α → β → Prop
  mono : ∀ {φ φ1 φ' : List Addr} {H H1 H' : Hp} {S : Sto} {a : α} {b : β}, Ext φ H φ1 H1 → rel H1 φ' S H' a b → rel H φ' S H' a b
def rpD (M : Mp) (ψ : List Addr) : Rp M ψ D V := ⟨fun _ φ' S H' d v => SRel M φ' ψ S H' ∧ Rep M φ' ψ H' d v, fun _ h => h⟩
def rpB (M : Mp) (ψ : List Addr) : Rp M ψ Bool Bool := ⟨fun _ φ' S H' d v => SRel M φ' ψ S H' ∧ d = v, fun _ h => h⟩
def rpA (M : Mp) (ψ : List Addr) : Rp M ψ (List D) (List V) := ⟨fun _ φ' S H' d v => SRel M φ' ψ S H' ∧ RepL M φ' ψ H' d v, fun _ h => h⟩
def rpI (M : Mp) (ψ : List Addr) : Rp M ψ (Option Int) (Option Int) := ⟨fun _ φ' S H' d v => SRel M φ' ψ S H' ∧ d = v, fun _ h => h⟩
/-- a fresh list -/
def rpF (M : Mp) (ψ : List Addr) : Rp M ψ (List D) V := ⟨fun H0 φ' S H' ds v => ∃ a xs, v = .ref a ∧ H0 a = none ∧ SRel M φ' (a :: ψ) S H' ∧ H' a = some (.lst xs) ∧ RepL M φ' (a :: ψ) H' ds xs,
  fun e ⟨a, xs, h1, h2, h3⟩ => ⟨a, xs, h1, by
    cases q : (_ : Hp) a with
    | none => exact q
    | some o => exact absurd h2 (e.dom a (by rw [q]; simp)), h3⟩⟩

def Post {α β : Type} {M : Mp} {ψ : List Addr} (rp : Rp M ψ α β) (φ : List Addr) (H : Hp) (r : R α) (Q : β → Hp → Prop) (W : Value → Option Addr → Hp → Prop) : Prop :=
  match r with
  | .ok a S => ∀ φ' H' b, Ext φ H φ' H' → rp.rel H φ' S H' a b → Q b H'
  | .err x S => ∀ φ' H' cls od, Ext φ H φ' H' → SRel M φ' ψ S H' → RepX M φ' ψ H' x cls od → W cls od H'
  | .stuck => False
section
variable {α β γ δ : Type} {M : Mp} {ψ : List Addr} {φ φ1 : List Addr} {H H1 : Hp} {r : R α} {Q Q' : β → Hp → Prop} {W : Value → Option Addr → Hp → Prop}
theorem Post.imp {rp : Rp M ψ α β} (h : Post rp φ H r Q W) (k : ∀ b H1, Q b H1 → Q' b H1) : Post rp φ H r Q' W := by
  cases r with
  | ok a S => exact fun φ' H' b e q => k b H' (h φ' H' b e q)
  | err x S => exact h
  | stuck => exact h
theorem Post.ext {rp : Rp M ψ α β} (h : Post rp φ H r Q W) (e : Ext φ H φ1 H1) : Post rp φ1 H1 r Q W := by
  cases r with
  | ok a S => exact fun φ' H' b e' q => h φ' H' b (e.trans e') (rp.mono e q)
  | err x S => exact fun φ' H' cls od e' s q => h φ' H' cls od (e.trans e') s q
  | stuck => exact h
theorem Post.bind {rp1 : Rp M ψ α β} {rp2 : Rp M ψ γ δ} {f : α → Sto → R γ} {Q : δ → Hp → Prop} (h : Post rp2 φ H (r.bind f) Q W) :
    Post rp1 φ H r (fun b H1 => ∃ φ1 a S1, Ext φ H φ1 H1 ∧ rp1.rel H φ1 S1 H1 a b ∧ Post rp2 φ1 H1 (f a S1) Q W) W := by
  cases r with
  | ok a S => exact fun φ1 H1 b e q => ⟨φ1, a, S, e, q, Post.ext (show Post rp2 φ H (f a S) Q W from h) e⟩
  | err x S => exact h
  | stuck => exact h
end

/-- the reading by a function on data -/
def rd {α β : Type} (M : Mp) (rp : ∀ ψ, Rp M ψ α β) (W : WX) (m : En → Sto → R α) : L2.St → Hp → (β → Hp → Prop) → Prop := fun σ H Q =>
  ∃ env S φ ψ, ERel M φ ψ H env σ ∧ SRel M φ ψ S H ∧ Post (rp ψ) φ H (m env S) Q (fun cls od H' => W cls od σ H')
abbrev rdD (M : Mp) (W : WX) (m : En → Sto → R D) : TE := rd M (rpD M) W m
abbrev rdB (M : Mp) (W : WX) (m : En → Sto → R Bool) : TT := rd M (rpB M) W m
abbrev rdA (M : Mp) (W : WX) (m : En → Sto → R (List D)) : TA := rd M (rpA M) W m
abbrev rdF (M : Mp) (W : WX) (m : En → Sto → R (List D)) : TE := rd M (rpF M) W m
/-- an expression that gives a datum; one that gives a fresh list; a test; arguments -/
def DE (X : Cx) (M : Mp) (W : WX) (e : Expr) (m : En → Sto → R D) : Prop := PE X e (rdD M W m)
def DF (X : Cx) (M : Mp) (W : WX) (e : Expr) (m : En → Sto → R (List D)) : Prop := PE X e (rdF M W m)
def DT (X : Cx) (M : Mp) (W : WX) (e : Expr) (m : En → Sto → R Bool) : Prop := PT X e (rdB M W m)
def DW (X : Cx) (M : Mp) (W : WX) (e : Expr) (m : En → Sto → R Bool) : Prop := PW X e (rdB M W m)
def DA (X : Cx) (M : Mp) (W : WX) (es : List Expr) (m : En → Sto → R (List D)) : Prop := PA X es (rdA M W m)

section
variable {X : Cx}
theorem pe_imp {e : Expr} {t t' : TE} (h : PE X e t) (k : ∀ σ H Q, t' σ H Q → t σ H Q) : PE X e t' := ⟨fun pins s σ H Q I q => h.run pins s σ H Q I (k σ H Q q)⟩
theorem pt_imp {e : Expr} {t t' : TT} (h : PT X e t) (k : ∀ σ H Q, t' σ H Q → t σ H Q) : PT X e t' := ⟨fun pins s σ H Q I q => h.run pins s σ H Q I (k σ H Q q)⟩
theorem pw_imp {e : Expr} {t t' : TT} (h : PW X e t) (k : ∀ σ H Q, t' σ H Q → t σ H Q) : PW X e t' := ⟨fun wh pins s σ H Q I q => h.run wh pins s σ H Q I (k σ H Q q)⟩
theorem pa_imp {es : List Expr} {t t' : TA} (h : PA X es t) (k : ∀ σ H Q, t' σ H Q → t σ H Q) : PA X es t' := ⟨fun pos pins s σ H Q I q => h.run pos pins s σ H Q I (k σ H Q q)⟩
end

section
variable {α β γ δ ε ζ : Type} {M : Mp} {W : WX} {σ : L2.St} {H : Hp}
/-- a reckoning cut in two -/
theorem rd_bind {rp1 : ∀ ψ, Rp M ψ α β} {rp2 : ∀ ψ, Rp M ψ γ δ} {m : En → Sto → R α} {f : En → α → Sto → R γ} {Q : δ → Hp → Prop} (h : rd M rp2 W (fun env S => (m env S).bind (f env)) σ H Q)
    (Q1 : β → Hp → Prop) (k : ∀ (env : En) (φ φ1 ψ : List Addr) (a : α) (b : β) (S1 : Sto) (H1 : Hp), ERel M φ ψ H env σ → Ext φ H φ1 H1 → (M.Ok → ERel M φ1 ψ H1 env σ) → (rp1 ψ).rel H φ1 S1 H1 a b → Post (rp2 ψ) φ1 H1 (f env a S1) Q (fun cls od H' => W cls od σ H') → Q1 b H1) :
    rd M rp1 W m σ H Q1 := by
  obtain ⟨env, S, φ, ψ, er, sr, p⟩ := h
  refine ⟨env, S, φ, ψ, er, sr, (Post.bind (rp1 := rp1 ψ) p).imp ?_⟩
  rintro b H1 ⟨φ1, a, S1, e, q, p1⟩
  exact k env φ φ1 ψ a b S1 H1 er e (fun ok => er.mono ok e) q p1
/-- with a datum first -/
theorem rd_bindD {rp2 : ∀ ψ, Rp M ψ γ δ} {m : En → Sto → R D} {f : En → D → Sto → R γ} {Q : δ → Hp → Prop} (h : rd M rp2 W (fun env S => (m env S).bind (f env)) σ H Q)
    (Q1 : V → Hp → Prop) (k : ∀ (env : En) (φ1 ψ : List Addr) (d : D) (v : V) (S1 : Sto) (H1 : Hp), ERel M φ1 ψ H1 env σ → SRel M φ1 ψ S1 H1 → Rep M φ1 ψ H1 d v → Post (rp2 ψ) φ1 H1 (f env d S1) Q (fun cls od H' => W cls od σ H') → Q1 v H1) :
    rdD M W m σ H Q1 := rd_bind (rp1 := rpD M) h Q1 fun env φ φ1 ψ d v S1 H1 _ _ er q p => k env φ1 ψ d v S1 H1 (er q.1.ok) q.1 q.2 p
theorem rd_bindA {rp2 : ∀ ψ, Rp M ψ γ δ} {m : En → Sto → R (List D)} {f : En → List D → Sto → R γ} {Q : δ → Hp → Prop} (h : rd M rp2 W (fun env S => (m env S).bind (f env)) σ H Q)
    (Q1 : List V → Hp → Prop) (k : ∀ (env : En) (φ1 ψ : List Addr) (d : List D) (v : List V) (S1 : Sto) (H1 : Hp), ERel M φ1 ψ H1 env σ → SRel M φ1 ψ S1 H1 → RepL M φ1 ψ H1 d v → Post (rp2 ψ) φ1 H1 (f env d S1) Q (fun cls od H' => W cls od σ H') → Q1 v H1) :
    rdA M W m σ H Q1 := rd_bind (rp1 := rpA M) h Q1 fun env φ φ1 ψ d v S1 H1 _ _ er q p => k env φ1 ψ d v S1 H1 (er q.1.ok) q.1 q.2 p
theorem rd_bindB {rp2 : ∀ ψ, Rp M ψ γ δ} {m : En → Sto → R Bool} {f : En → Bool → Sto → R γ} {Q : δ → Hp → Prop} (h : rd M rp2 W (fun env S => (m env S).bind (f env)) σ H Q)
    (Q1 : Bool → Hp → Prop) (k : ∀ (env : En) (φ1 ψ : List Addr) (b : Bool) (S1 : Sto) (H1 : Hp), ERel M φ1 ψ H1 env σ → SRel M φ1 ψ S1 H1 → Post (rp2 ψ) φ1 H1 (f env b S1) Q (fun cls od H' => W cls od σ H') → Q1 b H1) :
    rdB M W m σ H Q1 := rd_bind (rp1 := rpB M) h Q1 fun env φ φ1 ψ b c S1 H1 _ _ er q p => by
      obtain ⟨q1, rfl⟩ := q
      exact k env φ1 ψ b S1 H1 (er q1.ok) q1 p
/-- a fresh list first: it may be kept as it is, or be ours; the rest is told from ahead of it -/
theorem rd_bindF {rp2 : ∀ ψ, Rp M ψ γ δ} {m : En → Sto → R (List D)} {f : En → List D → Sto → R γ} {Q : δ → Hp → Prop} (h : rd M rp2 W (fun env S => (m env S).bind (f env)) σ H Q)
    (Q1 : V → Hp → Prop) (k : ∀ (env : En) (φ φ1 ψ : List Addr) (ds : List D) (a : Addr) (xs : List V) (S1 : Sto) (H1 : Hp), ERel M φ1 (a :: ψ) H1 env σ → SRel M φ1 (a :: ψ) S1 H1 → a ∉ ψ → H a = none → Ext φ H φ1 H1 → H1 a = some (.lst xs) → RepL M φ1 (a :: ψ) H1 ds xs → Post (rp2 ψ) φ H (f env ds S1) Q (fun cls od H' => W cls od σ H') → Q1 (.ref a) H1) :
    rdF M W m σ H Q1 := by
  obtain ⟨env, S, φ, ψ, er, sr, p⟩ := h
  refine ⟨env, S, φ, ψ, er, sr, ?_⟩
  dsimp only at p
  cases e : m env S with
  | ok ds S1 =>
    rw [e] at p
    rintro φ1 H1 b ex ⟨a, xs, rfl, hn, s1, ha, r⟩
    exact k env φ φ1 ψ ds a xs S1 H1 ((er.fresh hn).mono s1.ok ex) s1 (sr.notIn hn).2 hn ex ha r p
  | err x S1 => rw [e] at p; exact p
  | stuck => rw [e] at p; exact p
/-- the reckoning ends with a datum -/
theorem Post.retD {φ ψ : List Addr} {d : D} {S : Sto} {Q : V → Hp → Prop} {W : Value → Option Addr → Hp → Prop} (h : Post (rpD M ψ) φ H (.ok d S) Q W) {v : V} (s : SRel M φ ψ S H) (r : Rep M φ ψ H d v) : Q v H := h φ H v (.refl _ _) ⟨s, r⟩
theorem Post.retB {φ ψ : List Addr} {d : Bool} {S : Sto} {Q : Bool → Hp → Prop} {W : Value → Option Addr → Hp → Prop} (h : Post (rpB M ψ) φ H (.ok d S) Q W) (s : SRel M φ ψ S H) : Q d H := h φ H d (.refl _ _) ⟨s, rfl⟩
theorem Post.retA {φ ψ : List Addr} {d : List D} {S : Sto} {Q : List V → Hp → Prop} {W : Value → Option Addr → Hp → Prop} (h : Post (rpA M ψ) φ H (.ok d S) Q W) {v : List V} (s : SRel M φ ψ S H) (r : RepL M φ ψ H d v) : Q v H := h φ H v (.refl _ _) ⟨s, r⟩
/-- .. a datum that stands in a new object -/
theorem Post.newD {φ ψ : List Addr} {d : D} {S : Sto} {Q : V → Hp → Prop} {W : Value → Option Addr → Hp → Prop} (h : Post (rpD M ψ) φ H (.ok d S) Q W) (s : SRel M φ ψ S H) {p : Addr} {o : HO} (hp : H p = none)
    (r : Rep M φ ψ (upd H p o) d (.ref p)) : Q (.ref p) (upd H p o) := h φ _ _ (s.laid hp).1 ⟨(s.laid hp).2, r⟩
theorem Rep.tupNew {φ ψ : List Addr} {S : Sto} {ds : List D} {xs : List V} (s : SRel M φ ψ S H) (r : RepL M φ ψ H ds xs) {p : Addr} (hp : H p = none) : Rep M φ ψ (upd H p (.tup xs)) (.tup ds) (.ref p) := by
  simp only [Rep]
  exact ⟨p, xs, rfl, SqT.of upd_same, RepL.mono s.ok (s.laid hp).1 _ _ r⟩
/-- .. with a fresh list -/
theorem Post.newF {φ ψ : List Addr} {ds : List D} {S : Sto} {Q : V → Hp → Prop} {W : Value → Option Addr → Hp → Prop} (h : Post (rpF M ψ) φ H (.ok ds S) Q W) (s : SRel M φ ψ S H) {p : Addr} {xs : List V} (hp : H p = none)
    (r : RepL M φ ψ H ds xs) : Q (.ref p) (upd H p (.lst xs)) := by
  refine h φ _ _ (s.laid hp).1 ⟨p, xs, rfl, hp, ?_, upd_same, RepL.mono s.ok (s.laid hp).1 _ _ (RepL.fresh hp _ _ r)⟩
  obtain ⟨e, s'⟩ := s.laid (o := .lst xs) hp
  refine ⟨s'.len, s'.nd, fun b hb hm => ?_, fun b hb => ?_, fun n b o h1 h2 => ?_, s'.tabs, s'.ok⟩
  · rcases List.mem_cons.mp hm with z | z
    · exact (s.notIn hp).1 (by rw [← z]; exact hb)
    · exact s'.dis b hb z
  · rcases List.mem_cons.mp hb with z | z
    · rw [z]; exact ⟨_, upd_same, rfl, rfl⟩
    · exact s'.av b z
  · exact ((s.obj n b o h1 h2).fresh hp).mono s.ok e fun u hu => by
      rw [upd_ne (ne_of_none hu hp)]; exact hu
end

/-! ### names and constants -/
def varM (i : Nat) : En → Sto → R D := fun env S => match env[i]? with
  | some (some d) => .ok d S
  | _ => .stuck
def cM (d : D) : En → Sto → R D := fun _ S => .ok d S
section
variable {X : Cx} {M : Mp} {W : WX} {pos : Pos}
theorem rd_cM {d : D} {v : V} (r : ∀ φ ψ H, Rep M φ ψ H d v) : ∀ σ H Q, rdD M W (cM d) σ H Q → tC v σ H Q := fun σ H Q ⟨env, S, φ, ψ, er, sr, p⟩ => p.retD sr (r φ ψ H)
theorem de_int {i j} : DE X M W (.Constant (.int i) j pos) (cM (.int i)) := pe_imp pe_int (rd_cM fun _ _ _ => by simp only [Rep])
theorem de_bl {i j} : DE X M W (.Constant (.bool i) j pos) (cM (.bl i)) := pe_imp pe_bl (rd_cM fun _ _ _ => by simp only [Rep])
theorem de_non {j} : DE X M W (.Constant .none j pos) (cM .non) := pe_imp pe_non (rd_cM fun _ _ _ => by simp only [Rep])
theorem de_str {i j} : DE X M W (.Constant (.str i) j pos) (cM (.str i)) := pe_imp pe_str (rd_cM fun _ _ _ => by simp only [Rep])
theorem de_var (i : Nat) {x : Str} (hN : X.N[i]? = some x := by rfl) (hv : Vis X.env.scope x := by first | exact Or.inl rfl | exact Or.inr (Or.inl rfl) | exact Or.inr (Or.inr rfl)) (hd : (x == ("__debug__" : Str)) = false := by decide)
    (hcd : (x == ("__classdict__" : Str)) = false := by decide) : DE X M W (.Name x pos) (varM i) := by
  refine pe_imp (pe_var hN hv hd hcd) fun σ H Q h => ?_
  obtain ⟨env, S, φ, ψ, er, sr, p⟩ := h
  unfold varM at p
  split at p
  · rename_i d e
    obtain ⟨v, h1, h2⟩ := er.at_ i d e
    exact ⟨v, h1, p.retD sr h2⟩
  · exact p.elim
/-- a constant of the module -/
theorem de_glob {x : Str} {d : D} {v : V} {u : Value} (r : ∀ φ ψ H, Rep M φ ψ H d v) (ru : RelV v u) (hm : X.mg x = some u) (hg : Gl X x := by rfl) (hd : (x == ("__debug__" : Str)) = false := by decide) : DE X M W (.Name x pos) (cM d) :=
  pe_imp (pe_glob hg hm ru hd) (rd_cM r)
theorem de_gint {x : Str} {i : Int} (hm : ∃ t, X.mg x = some (.int i t)) (hg : Gl X x := by rfl) (hd : (x == ("__debug__" : Str)) = false := by decide) : DE X M W (.Name x pos) (cM (.int i)) := by
  obtain ⟨t, hm⟩ := hm
  exact de_glob (v := .int i) (fun _ _ _ => by simp only [Rep]) ⟨t, rfl⟩ hm hg hd
theorem de_gstr {x i : Str} (hm : ∃ t, X.mg x = some (.str i t)) (hg : Gl X x := by rfl) (hd : (x == ("__debug__" : Str)) = false := by decide) : DE X M W (.Name x pos) (cM (.str i)) := by
  obtain ⟨t, hm⟩ := hm
  exact de_glob (v := .str i) (fun _ _ _ => by simp only [Rep]) ⟨t, rfl⟩ hm hg hd
theorem de_gfn {x : Str} {k : Nat} (hm : X.mg x = some (.ref (M.fa k))) (hg : Gl X x := by rfl) (hd : (x == ("__debug__" : Str)) = false := by decide) : DE X M W (.Name x pos) (cM (.fn k)) :=
  de_glob (v := .ref (M.fa k)) (fun _ _ _ => by simp only [Rep]) rfl hm hg hd

/-! ### argument lists, displays -/
def nilM : En → Sto → R (List D) := fun _ S => .ok [] S
def consM (m : En → Sto → R D) (ms : En → Sto → R (List D)) : En → Sto → R (List D) := fun env S => (m env S).bind fun d S1 => (ms env S1).bind fun ds S2 => .ok (d :: ds) S2
theorem da_nil : DA X M W [] nilM := pa_imp pa_nil fun σ H Q ⟨env, S, φ, ψ, er, sr, p⟩ => p.retA sr .nil
theorem da_cons {e : Expr} {es : List Expr} {m : En → Sto → R D} {ms : En → Sto → R (List D)} (ha : DE X M W e m) (hr : DA X M W es ms) (hs : starEach (e :: es) X.env = (false, eval e X.env) :: starEach es X.env := by rfl) : DA X M W (e :: es) (consM m ms) := by
  refine pa_imp (pa_cons ha hr hs) fun σ H Q h => ?_
  refine rd_bindD h _ fun env φ1 ψ d v S1 H1 er sr r p => ?_
  refine ⟨env, S1, φ1, ψ, er, sr, (Post.bind (rp1 := rpA M ψ) p).imp ?_⟩
  rintro vs H2 ⟨φ2, ds, S2, e2, ⟨s2, r2⟩, p2⟩
  exact p2.retA s2 (.cons (Rep.mono s2.ok e2 _ _ r) r2)
def tupM (ms : En → Sto → R (List D)) : En → Sto → R D := fun env S => (ms env S).bind fun ds S1 => if ds.length ≤ sizeLine then .ok (.tup ds) S1 else .stuck
theorem de_tup {x1} {es : List Expr} {ms : En → Sto → R (List D)} (h : DA X M W es ms) : DE X M W (.Tuple es x1 pos) (tupM ms) := by
  refine pe_imp (pe_tup h) fun σ H Q h => ?_
  refine rd_bindA h _ fun env φ1 ψ ds vs S1 H1 er sr r p => ?_
  by_cases hz : ds.length ≤ sizeLine
  · rw [if_pos hz] at p
    exact ⟨by rw [← r.length]; exact hz, fun q hq => p.newD sr hq (.tupNew sr r hq)⟩
  · rw [if_neg hz] at p; exact p.elim
def lstM (ms : En → Sto → R (List D)) : En → Sto → R (List D) := fun env S => (ms env S).bind fun ds S1 => if ds.length ≤ sizeLine then .ok ds S1 else .stuck
theorem df_lst {es : List Expr} {ms : En → Sto → R (List D)} (h : DA X M W es ms) : DF X M W (.List es pos) (lstM ms) := by
  refine pe_imp (pe_lst h) fun σ H Q h => ?_
  refine rd_bindA h _ fun env φ1 ψ ds vs S1 H1 er sr r p => ?_
  by_cases hz : ds.length ≤ sizeLine
  · rw [if_pos hz] at p
    exact ⟨by rw [← r.length]; exact hz, fun q hq => p.newF sr hq r⟩
  · rw [if_neg hz] at p; exact p.elim

/-! ### fresh lists, kept as they are or ours to change -/
def frzM (ml : En → Sto → R (List D)) : En → Sto → R D := fun env S => (ml env S).bind fun ds S1 => .ok (.lst ds) S1
def ownM (ml : En → Sto → R (List D)) : En → Sto → R D := fun env S => (ml env S).bind fun ds S1 => .ok (.ref S1.length) (S1 ++ [.lst ds])
theorem rd_frz {ml : En → Sto → R (List D)} {σ : L2.St} {H : Hp} {Q : VK} (h : rdD M W (frzM ml) σ H Q) : rdF M W ml σ H Q := by
  refine rd_bindF h _ fun env φ φ1 ψ ds a xs S1 H1 er sr na hn ex ha r p => ?_
  refine (p.ext ex).retD sr.drop ?_
  simp only [Rep]
  exact ⟨a, xs, rfl, fun hm => sr.dis a hm List.mem_cons_self, na, ha, RepL.avoid (fun b h1 h2 => ⟨h1, fun hm => h2 (List.mem_cons_of_mem _ hm)⟩) (fun _ _ h => h) _ _ r⟩
theorem rd_own {ml : En → Sto → R (List D)} {σ : L2.St} {H : Hp} {Q : VK} (h : rdD M W (ownM ml) σ H Q) : rdF M W ml σ H Q := by
  refine rd_bindF h _ fun env φ φ1 ψ ds a xs S1 H1 er sr na hn ex ha r p => ?_
  exact p _ H1 _ (ex.own hn) ⟨sr.own ha na r, by simp only [Rep]; exact ⟨a, rfl, by rw [← sr.len]; simp⟩⟩
theorem DF.frz {e : Expr} {ml : En → Sto → R (List D)} (h : DF X M W e ml) : DE X M W e (frzM ml) := pe_imp h fun σ H Q h => rd_frz h
theorem DF.own {e : Expr} {ml : En → Sto → R (List D)} (h : DF X M W e ml) : DE X M W e (ownM ml) := pe_imp h fun σ H Q h => rd_own h
end
end DL
end

section
set_option Elab.async false
set_option linter.all false
set_option maxRecDepth 100000
set_option maxHeartbeats 1000000
/-! DL, part 3: operators, comparisons, subscripts, slices, tests. -/
namespace DL
open PySem PySem.Spec PyProof.Rows L2

/-! ### what a datum is as a list, as a sequence -/
def asL (S : Sto) : D → Option (List D)
  | .lst ds => some ds
  | .scr ds => some ds
  | .ref n => match S[n]? with
    | some (.lst ds) => some ds
    | none => none
  | _ => none
/-- .. a list that is no script -/
def asX (S : Sto) : D → Option (List D)
  | .lst ds => some ds
  | .ref n => match S[n]? with
    | some (.lst ds) => some ds
    | none => none
  | _ => none
def asS (S : Sto) : D → Option (List D)
  | .tup ds => some ds
  | d => asL S d
section
variable {M : Mp} {φ ψ : List Addr} {S : Sto} {H : Hp}
theorem at_X (s : SRel M φ ψ S H) {d : D} {v : V} {ds : List D} (r : Rep M φ ψ H d v) (e : asX S d = some ds) : ∃ a xs, v = .ref a ∧ H a = some (.lst xs) ∧ RepL M φ ψ H ds xs := by
  cases d with
  | lst es =>
    simp only [asX, Option.some.injEq] at e
    subst e
    simp only [Rep] at r
    obtain ⟨a, xs, rfl, _, _, h1, h2⟩ := r
    exact ⟨a, xs, rfl, h1, h2⟩
  | ref n =>
    simp only [asX] at e
    split at e
    · rename_i es he
      cases e
      simp only [Rep] at r
      obtain ⟨a, rfl, ha⟩ := r
      obtain ⟨xs, h1, h2⟩ := s.obj n a _ ha he
      exact ⟨a, xs, rfl, h1, h2⟩
    · cases e
  | _ => simp [asX] at e
theorem at_L (s : SRel M φ ψ S H) {d : D} {v : V} {ds : List D} (r : Rep M φ ψ H d v) (e : asL S d = some ds) : ∃ a xs, v = .ref a ∧ SqL M.K H a xs ∧ RepL M φ ψ H ds xs := by
  cases d with
  | scr es =>
    simp only [asL, Option.some.injEq] at e
    subst e
    simp only [Rep] at r
    obtain ⟨a, xs, rfl, h1, h2⟩ := r
    exact ⟨a, xs, rfl, h1.sq, h2⟩
  | lst es =>
    obtain ⟨a, xs, rfl, h1, h2⟩ := at_X s r (show asX S (.lst es) = some ds from e)
    exact ⟨a, xs, rfl, SqL.of h1, h2⟩
  | ref n =>
    obtain ⟨a, xs, rfl, h1, h2⟩ := at_X s r (show asX S (.ref n) = some ds from e)
    exact ⟨a, xs, rfl, SqL.of h1, h2⟩
  | _ => simp [asL] at e
theorem at_S (s : SRel M φ ψ S H) {d : D} {v : V} {ds : List D} (r : Rep M φ ψ H d v) (e : asS S d = some ds) : ∃ a xs, v = .ref a ∧ (SqL M.K H a xs ∨ SqT M.K H a xs) ∧ RepL M φ ψ H ds xs := by
  cases d with
  | tup es =>
    simp only [asS, Option.some.injEq] at e
    subst e
    simp only [Rep] at r
    obtain ⟨a, xs, rfl, h1, h2⟩ := r
    exact ⟨a, xs, rfl, .inr h1, h2⟩
  | _ =>
    obtain ⟨a, xs, rfl, h1, h2⟩ := at_L s r (by simpa [asS] using e)
    exact ⟨a, xs, rfl, .inl h1, h2⟩
end

/-! ### a datum for == -/
mutual
def toPy : D → Option PyData
  | .non => some .none
  | .bl b => some (.bool b)
  | .int i => some (.int i)
  | .str s => some (.str s)
  | .tup ds => (toPyL ds).map .tuple
  | .lst ds => (toPyL ds).map .list
  | .scr ds => (toPyL ds).map .list
  | .dic _ _ | .exc _ _ | .fn _ | .clo _ _ | .ref _ => none
def toPyL : List D → Option (List PyData)
  | [] => some []
  | d :: ds => match toPy d, toPyL ds with
    | some p, some ps => some (p :: ps)
    | _, _ => none
end
section
variable {M : Mp} {φ ψ : List Addr} {S : Sto} {H : Hp}
mutual
theorem Rep.dp : ∀ (d : D) (v : V) (p : PyData), Rep M φ ψ H d v → toPy d = some p → Dp M.K H v p
  | .non, v, p, h, e => by
    simp only [Rep] at h; simp only [toPy] at e; subst h; cases e; exact .non
  | .bl b, v, p, h, e => by
    simp only [Rep] at h; simp only [toPy] at e; subst h; cases e; exact .bl b
  | .int b, v, p, h, e => by
    simp only [Rep] at h; simp only [toPy] at e; subst h; cases e; exact .int b
  | .str b, v, p, h, e => by
    simp only [Rep] at h; simp only [toPy] at e; subst h; cases e; exact .str b
  | .tup ds, v, p, h, e => by
    simp only [Rep] at h; simp only [toPy, Option.map_eq_some_iff] at e
    obtain ⟨a, xs, rfl, h1, h2⟩ := h
    obtain ⟨ps, e1, rfl⟩ := e
    exact .tup h1 (RepL.dp ds xs ps h2 e1)
  | .lst ds, v, p, h, e => by
    simp only [Rep] at h; simp only [toPy, Option.map_eq_some_iff] at e
    obtain ⟨a, xs, rfl, _, _, h1, h2⟩ := h
    obtain ⟨ps, e1, rfl⟩ := e
    exact .lst (SqL.of h1) (RepL.dp ds xs ps h2 e1)
  | .scr ds, v, p, h, e => by
    simp only [Rep] at h; simp only [toPy, Option.map_eq_some_iff] at e
    obtain ⟨a, xs, rfl, h1, h2⟩ := h
    obtain ⟨ps, e1, rfl⟩ := e
    exact .lst h1.sq (RepL.dp ds xs ps h2 e1)
  | .dic _ _, v, p, h, e => by simp [toPy] at e
  | .exc _ _, v, p, h, e => by simp [toPy] at e
  | .fn _, v, p, h, e => by simp [toPy] at e
  | .clo _ _, v, p, h, e => by simp [toPy] at e
  | .ref _, v, p, h, e => by simp [toPy] at e
theorem RepL.dp : ∀ (ds : List D) (vs : List V) (ps : List PyData), RepL M φ ψ H ds vs → toPyL ds = some ps → DpAll M.K H vs ps
  | [], vs, ps, h, e => by
    simp only [RepL] at h; simp only [toPyL] at e; subst h; cases e; exact .nil
  | d :: ds, vs, ps, h, e => by
    simp only [RepL] at h; simp only [toPyL] at e
    obtain ⟨x, xs, rfl, h1, h2⟩ := h
    split at e
    · rename_i p ps' e1 e2
      cases e
      exact .cons (Rep.dp d x p h1 e1) (RepL.dp ds xs ps' h2 e2)
    · cases e
end
end
/-- a list that is changed, as it stands -/
def view (S : Sto) (d : D) : D := match d with
  | .ref n => match S[n]? with
    | some (.lst ds) => .lst ds
    | none => .ref n
  | d => d
theorem view_dp {M : Mp} {φ ψ : List Addr} {S : Sto} {H : Hp} (s : SRel M φ ψ S H) {d : D} {v : V} {p : PyData} (r : Rep M φ ψ H d v) (e : toPy (view S d) = some p) : Dp M.K H v p := by
  cases d with
  | ref n =>
    simp only [view] at e
    split at e
    · rename_i ds he
      obtain ⟨a, xs, rfl, h1, h2⟩ := at_X s r (show asX S (.ref n) = some ds by simp [asX, he])
      simp only [toPy, Option.map_eq_some_iff] at e
      obtain ⟨ps, e1, rfl⟩ := e
      exact .lst (SqL.of h1) (RepL.dp _ _ _ h2 e1)
    · simp [toPy] at e
  | _ => exact Rep.dp _ _ _ r (by simpa [view] using e)

/-! ### operators: two data to a datum -/
def op2M (g : Sto → D → D → R D) (ma mb : En → Sto → R D) : En → Sto → R D := fun env S => (ma env S).bind fun d1 S1 => (mb env S1).bind fun d2 S2 => g S2 d1 d2
/-- the machine's operator keeps what g tells -/
def Op2 (M : Mp) (r : R2) (g : Sto → D → D → R D) : Prop := ∀ (φ ψ : List Addr) (S : Sto) (H : Hp) (d1 d2 : D) (x y : V) (Q : VK) (Wc : Value → Option Addr → Hp → Prop),
  SRel M φ ψ S H → Rep M φ ψ H d1 x → Rep M φ ψ H d2 y → Post (rpD M ψ) φ H (g S d1 d2) Q Wc → r x y H Q
section
variable {X : Cx} {M : Mp} {W : WX} {pos : Pos} {a b : Expr} {ma mb : En → Sto → R D} {g : Sto → D → D → R D} {r : R2}
theorem rd_op2 (hk : Op2 M r g) : ∀ σ H Q, rdD M W (op2M g ma mb) σ H Q → tOp r (rdD M W ma) (rdD M W mb) σ H Q := fun σ H Q h => by
  refine rd_bindD h _ fun env φ1 ψ d1 x S1 H1 er sr r1 p => ?_
  refine ⟨env, S1, φ1, ψ, er, sr, (Post.bind (rp1 := rpD M ψ) p).imp ?_⟩
  rintro y H2 ⟨φ2, d2, S2, e2, ⟨s2, r2⟩, p2⟩
  exact hk φ2 ψ S2 H2 d1 d2 x y Q _ s2 (Rep.mono s2.ok e2 _ _ r1) r2 p2
theorem de_op {op : Operator} (ho : OpR X (binaryOp op) r) (hk : Op2 M r g) (ha : DE X M W a ma) (hb : DE X M W b mb) : DE X M W (.BinOp a op b pos) (op2M g ma mb) := pe_imp (pe_op ho ha hb) (rd_op2 hk)

/-- truth -/
def truth (S : Sto) : D → Option Bool
  | .non => some false
  | .bl b => some b
  | .int i => some (i != 0)
  | .str s => if s.length ≤ sizeLine then some (s.length != 0) else none
  | d => (asS S d).map fun ds => !ds.isEmpty
def truB (S : Sto) (d : D) : R Bool := match truth S d with
  | some b => .ok b S
  | none => .stuck
def tstM (m : En → Sto → R D) : En → Sto → R Bool := fun env S => (m env S).bind fun d S1 => truB S1 d
theorem isEmpty_len {α β : Type} {l : List α} {m : List β} (h : l.length = m.length) : l.isEmpty = m.isEmpty := by
  cases l <;> cases m <;> simp_all
theorem tru_of {φ ψ : List Addr} {S : Sto} {H : Hp} (s : SRel M φ ψ S H) {d : D} {v : V} {k : Bool} (r : Rep M φ ψ H d v) (e : truth S d = some k) : TruV M.K v H k := by
  have seq : ∀ {ds : List D}, asS S d = some ds → k = !ds.isEmpty → TruV M.K v H k := fun {ds} h1 h2 => by
    obtain ⟨a, xs, rfl, h3, h4⟩ := at_S s r h1
    have e1 := isEmpty_len h4.length
    rcases h3 with h3 | h3
    · exact .inl ⟨xs, h3, by rw [h2, e1]⟩
    · exact .inr (.inl ⟨xs, h3, by rw [h2, e1]⟩)
  cases d with
  | non => simp only [Rep] at r; subst r; simp [truth] at e; exact (show k = false from e)
  | bl b => simp only [Rep] at r; subst r; simp [truth] at e; exact e.symm
  | int i => simp only [Rep] at r; subst r; simp [truth] at e; exact e.symm
  | str z =>
    simp only [Rep] at r; subst r; simp only [truth] at e
    split at e
    · rename_i hz
      cases e
      refine ⟨hz, ?_⟩
      cases q : z.length <;> simp <;> omega
    · cases e
  | _ =>
    simp only [truth, Option.map_eq_some_iff] at e
    obtain ⟨ds, h1, h2⟩ := e
    exact seq h1 h2.symm
/-- the machine's test of a value by what truth tells -/
theorem rd_tst {m : En → Sto → R D} (hK : X.K = M.K) : ∀ σ H Q, rdB M W (tstM m) σ H Q → rdD M W m σ H fun x H' => ∃ k, TruV X.K x H' k ∧ Q k H' := fun σ H Q h => by
  refine rd_bindD h _ fun env φ1 ψ d v S1 H1 er sr r p => ?_
  unfold truB at p
  split at p
  · rename_i k e
    exact ⟨k, by rw [hK]; exact tru_of sr r e, p.retB sr⟩
  · exact p.elim
theorem dt_val {m : En → Sto → R D} (h : DE X M W a m) (hK : X.K = M.K := by rfl) (he : ∀ whole, isTrue a X.env whole = (do let v ← whole; standAt a.pos; holding [v] (truthy v)) := by intro _; rfl) : DT X M W a (tstM m) :=
  pt_imp (pt_truth h he) (rd_tst hK)
/-- a comparison of two data -/
def Cm2 (M : Mp) (r : R2) (g : Sto → D → D → R Bool) : Prop := ∀ (φ ψ : List Addr) (S : Sto) (H : Hp) (d1 d2 : D) (x y : V) (Q : VK) (Wc : Value → Option Addr → Hp → Prop),
  SRel M φ ψ S H → Rep M φ ψ H d1 x → Rep M φ ψ H d2 y → Post (rpB M ψ) φ H (g S d1 d2) (fun k H' => Q (.bl k) H') Wc → r x y H Q
def cmpB (g : Sto → D → D → R Bool) (ma mb : En → Sto → R D) : En → Sto → R Bool := fun env S => (ma env S).bind fun d1 S1 => (mb env S1).bind fun d2 S2 => g S2 d1 d2
/-- a test's answer as a value -/
def valM (m : En → Sto → R Bool) : En → Sto → R D := fun env S => (m env S).bind fun k S1 => .ok (.bl k) S1
theorem rd_cmp {g : Sto → D → D → R Bool} {Q : VK} (hk : Cm2 M r g) : ∀ σ H, rdB M W (cmpB g ma mb) σ H (fun k H' => Q (.bl k) H') → tOp r (rdD M W ma) (rdD M W mb) σ H Q := fun σ H h => by
  refine rd_bindD h _ fun env φ1 ψ d1 x S1 H1 er sr r1 p => ?_
  refine ⟨env, S1, φ1, ψ, er, sr, (Post.bind (rp1 := rpD M ψ) p).imp ?_⟩
  rintro y H2 ⟨φ2, d2, S2, e2, ⟨s2, r2⟩, p2⟩
  exact hk φ2 ψ S2 H2 d1 d2 x y Q _ s2 (Rep.mono s2.ok e2 _ _ r1) r2 p2
theorem rd_val {m : En → Sto → R Bool} : ∀ σ H (Q : VK), rdD M W (valM m) σ H Q → rdB M W m σ H fun k H' => Q (.bl k) H' := fun σ H Q h =>
  rd_bindB h _ fun env φ1 ψ k S1 H1 er sr p => p.retD sr (by simp only [Rep])
theorem de_cmp {op : CmpOp} {g : Sto → D → D → R Bool} (ho : OpR X (compareOp op) r) (hk : Cm2 M r g) (ha : DE X M W a ma) (hb : DE X M W b mb) (hm : behindInMarks op b = false) : DE X M W (.Compare a [op] [b] pos) (valM (cmpB g ma mb)) :=
  pe_imp (pe_cmpR ho ha hb hm) fun σ H Q h => rd_cmp hk σ H (rd_val σ H Q h)
theorem rd_imp {α β : Type} {rp : ∀ ψ, Rp M ψ α β} {m : En → Sto → R α} {σ : L2.St} {H : Hp} {Q Q' : β → Hp → Prop} (h : rd M rp W m σ H Q) (k : ∀ b H', Q b H' → Q' b H') : rd M rp W m σ H Q' :=
  let ⟨env, S, φ, ψ, er, sr, p⟩ := h
  ⟨env, S, φ, ψ, er, sr, p.imp k⟩
theorem dt_cmp {op : CmpOp} {g : Sto → D → D → R Bool} (ho : OpR X (compareOp op) r) (hk : Cm2 M r g) (ha : DE X M W a ma) (hb : DE X M W b mb) (hm : behindInMarks op b = false) : DT X M W (.Compare a [op] [b] pos) (cmpB g ma mb) :=
  pt_imp (pt_cmpR ho ha hb hm) fun σ H Q h => rd_cmp (Q := fun x H' => ∃ k, x = .bl k ∧ Q k H') hk σ H (rd_imp h fun k H' q => ⟨k, rfl, q⟩)
/-- a op1 b op2 c -/
def chB (g g' : Sto → D → D → R Bool) (ma mb mc : En → Sto → R D) : En → Sto → R Bool := fun env S => (ma env S).bind fun d1 S1 => (mb env S1).bind fun d2 S2 => (g S2 d1 d2).bind fun k S3 =>
  if k = true then (mc env S3).bind fun d3 S4 => g' S4 d2 d3 else .ok false S3
theorem rd_chain {r' : R2} {c : Expr} {mc : En → Sto → R D} {g g' : Sto → D → D → R Bool} {Q : VK} (hk : Cm2 M r g) (hk' : Cm2 M r' g') : ∀ σ H, rdB M W (chB g g' ma mb mc) σ H (fun k H' => Q (.bl k) H') → tChain r r' (rdD M W ma) (rdD M W mb) (rdD M W mc) σ H Q := fun σ H h => by
  refine rd_bindD h _ fun env φ1 ψ d1 x S1 H1 er sr r1 p => ?_
  refine ⟨env, S1, φ1, ψ, er, sr, (Post.bind (rp1 := rpD M ψ) p).imp ?_⟩
  rintro y H2 ⟨φ2, d2, S2, e2, ⟨s2, r2⟩, p2⟩
  refine hk φ2 ψ S2 H2 d1 d2 x y _ _ s2 (Rep.mono s2.ok e2 _ _ r1) r2 ((Post.bind (rp1 := rpB M ψ) p2).imp ?_)
  rintro k H3 ⟨φ3, k', S3, e3, ⟨s3, rfl⟩, p3⟩
  refine ⟨k', rfl, ?_⟩
  cases k' with
  | false => exact iteF (p3.retB s3)
  | true =>
    refine iteT ?_
    refine ⟨env, S3, φ3, ψ, (er.mono s2.ok e2).mono s3.ok e3, s3, (Post.bind (rp1 := rpD M ψ) p3).imp ?_⟩
    rintro z H4 ⟨φ4, d3, S4, e4, ⟨s4, r4⟩, p4⟩
    exact hk' φ4 ψ S4 H4 d2 d3 y z Q _ s4 (Rep.mono s4.ok (e3.trans e4) _ _ r2) r4 p4
theorem de_chain {op op' : CmpOp} {r' : R2} {c : Expr} {mc : En → Sto → R D} {g g' : Sto → D → D → R Bool} (ho : OpR X (compareOp op) r) (hk : Cm2 M r g) (ho' : OpR X (compareOp op') r') (hk' : Cm2 M r' g') (ha : DE X M W a ma) (hb : DE X M W b mb) (hc : DE X M W c mc)
    (hm : lastMarks [op, op'] [b, c] = false := by with_unfolding_all rfl) : DE X M W (.Compare a [op, op'] [b, c] pos) (valM (chB g g' ma mb mc)) :=
  pe_imp (pe_chain ho ho' ha hb hc hm) fun σ H Q h => rd_chain (c := c) hk hk' σ H (rd_val σ H Q h)
theorem dt_chain {op op' : CmpOp} {r' : R2} {c : Expr} {mc : En → Sto → R D} {g g' : Sto → D → D → R Bool} (ho : OpR X (compareOp op) r) (hk : Cm2 M r g) (ho' : OpR X (compareOp op') r') (hk' : Cm2 M r' g') (ha : DE X M W a ma) (hb : DE X M W b mb) (hc : DE X M W c mc)
    (hm : lastMarks [op, op'] [b, c] = false := by with_unfolding_all rfl) : DT X M W (.Compare a [op, op'] [b, c] pos) (chB g g' ma mb mc) :=
  pt_imp (pt_chain ho ho' ha hb hc hm) fun σ H Q h => rd_chain (c := c) (Q := fun x H' => ∃ k, x = .bl k ∧ Q k H') hk hk' σ H (rd_imp h fun k H' q => ⟨k, rfl, q⟩)

/-! ### not, and, or -/
def notB (m : En → Sto → R Bool) : En → Sto → R Bool := fun env S => (m env S).bind fun k S1 => .ok (!k) S1
def andB (m n : En → Sto → R Bool) : En → Sto → R Bool := fun env S => (m env S).bind fun k S1 => if k = true then n env S1 else .ok false S1
def orB (m n : En → Sto → R Bool) : En → Sto → R Bool := fun env S => (m env S).bind fun k S1 => if k = true then .ok true S1 else n env S1
theorem dt_not {m : En → Sto → R Bool} (h : DT X M W a m) : DT X M W (.UnaryOp .Not a pos) (notB m) :=
  pt_imp (pt_not h) fun σ H Q h => rd_bindB h _ fun env φ1 ψ k S1 H1 er sr p => p.retB sr
theorem dw_and1 {m : En → Sto → R Bool} (h : DT X M W a m) : DW X M W (.BoolOp .And [a] pos) m := pw_and1 h
theorem dw_or1 {m : En → Sto → R Bool} (h : DT X M W a m) : DW X M W (.BoolOp .Or [a] pos) m := pw_or1 h
theorem dw_and {m n : En → Sto → R Bool} {rest : List Expr} (h : DT X M W a m) (h' : DW X M W (.BoolOp .And (b :: rest) pos) n) : DW X M W (.BoolOp .And (a :: b :: rest) pos) (andB m n) := by
  refine pw_imp (pw_and h h') fun σ H Q h => ?_
  refine rd_bindB h _ fun env φ1 ψ k S1 H1 er sr p => ?_
  cases k with
  | false => exact iteF (p.retB sr)
  | true => exact iteT ⟨env, S1, φ1, ψ, er, sr, p⟩
theorem dw_or {m n : En → Sto → R Bool} {rest : List Expr} (h : DT X M W a m) (h' : DW X M W (.BoolOp .Or (b :: rest) pos) n) : DW X M W (.BoolOp .Or (a :: b :: rest) pos) (orB m n) := by
  refine pw_imp (pw_or h h') fun σ H Q h => ?_
  refine rd_bindB h _ fun env φ1 ψ k S1 H1 er sr p => ?_
  cases k with
  | false => exact iteF ⟨env, S1, φ1, ψ, er, sr, p⟩
  | true => exact iteT (p.retB sr)
theorem DW.t {m : En → Sto → R Bool} (h : DW X M W a m) : DT X M W a m := PW.pt h
/-- as values -/
def notM (m : En → Sto → R D) : En → Sto → R D := fun env S => (m env S).bind fun d S1 => (truB S1 d).bind fun k S2 => .ok (.bl (!k)) S2
def andM (m n : En → Sto → R D) : En → Sto → R D := fun env S => (m env S).bind fun d S1 => (truB S1 d).bind fun k S2 => if k = true then n env S2 else .ok d S2
def orM (m n : En → Sto → R D) : En → Sto → R D := fun env S => (m env S).bind fun d S1 => (truB S1 d).bind fun k S2 => if k = true then .ok d S2 else n env S2
theorem truB_ok {S : Sto} {d : D} {α : Type} {f : Bool → Sto → R α} : (truB S d).bind f = match truth S d with | some k => f k S | none => .stuck := by
  unfold truB; cases truth S d <;> rfl
theorem de_not {m : En → Sto → R D} (h : DE X M W a m) (hK : X.K = M.K := by rfl) : DE X M W (.UnaryOp .Not a pos) (notM m) := by
  refine pe_imp (pe_notT h) fun σ H Q h => ?_
  refine rd_bindD h _ fun env φ1 ψ d v S1 H1 er sr r p => ?_
  rw [truB_ok] at p
  split at p
  · rename_i k e
    exact ⟨k, by rw [hK]; exact tru_of sr r e, p.retD sr (by simp only [Rep])⟩
  · exact p.elim
theorem de_one {op} {m : En → Sto → R D} (h : DE X M W a m) : DE X M W (.BoolOp op [a] pos) m := pe_one h
theorem de_and {m n : En → Sto → R D} {rest : List Expr} (h : DE X M W a m) (h' : DE X M W (.BoolOp .And (b :: rest) pos) n) (hK : X.K = M.K := by rfl) : DE X M W (.BoolOp .And (a :: b :: rest) pos) (andM m n) := by
  refine pe_imp (pe_andT h h') fun σ H Q h => ?_
  refine rd_bindD h _ fun env φ1 ψ d v S1 H1 er sr r p => ?_
  rw [truB_ok] at p
  split at p
  · rename_i k e
    refine ⟨k, by rw [hK]; exact tru_of sr r e, ?_⟩
    cases k with
    | false => exact iteF (p.retD sr r)
    | true => exact iteT ⟨env, S1, φ1, ψ, er, sr, p⟩
  · exact p.elim
theorem de_or {m n : En → Sto → R D} {rest : List Expr} (h : DE X M W a m) (h' : DE X M W (.BoolOp .Or (b :: rest) pos) n) (hK : X.K = M.K := by rfl) : DE X M W (.BoolOp .Or (a :: b :: rest) pos) (orM m n) := by
  refine pe_imp (pe_orT h h') fun σ H Q h => ?_
  refine rd_bindD h _ fun env φ1 ψ d v S1 H1 er sr r p => ?_
  rw [truB_ok] at p
  split at p
  · rename_i k e
    refine ⟨k, by rw [hK]; exact tru_of sr r e, ?_⟩
    cases k with
    | false => exact iteF ⟨env, S1, φ1, ψ, er, sr, p⟩
    | true => exact iteT (p.retD sr r)
  · exact p.elim
def ifM {α : Type} (t : En → Sto → R Bool) (m n : En → Sto → R α) : En → Sto → R α := fun env S => (t env S).bind fun k S1 => if k = true then m env S1 else n env S1
theorem de_ifExp {c : Expr} {t : En → Sto → R Bool} (hc : DT X M W c t) (ha : DE X M W a ma) (hb : DE X M W b mb) : DE X M W (.IfExp c a b pos) (ifM t ma mb) := by
  refine pe_imp (pe_ifExp hc ha hb) fun σ H Q h => ?_
  refine rd_bindB h _ fun env φ1 ψ k S1 H1 er sr p => ?_
  cases k with
  | false => exact iteF ⟨env, S1, φ1, ψ, er, sr, p⟩
  | true => exact iteT ⟨env, S1, φ1, ψ, er, sr, p⟩
end

/-! ### the operators -/
section
variable {X : Cx} {M : Mp}
def addG (S : Sto) : D → D → R D
  | .int i, .int j => .ok (.int (i + j)) S
  | .str a, .str b => if a.length + b.length ≤ sizeLine then .ok (.str (a ++ b)) S else .stuck
  | .tup a, .tup b => if a.length + b.length ≤ sizeLine then .ok (.tup (a ++ b)) S else .stuck
  | _, _ => .stuck
theorem op_addG (hK : X.K = M.K := by rfl) : ∃ r, OpR X (binaryOp .Add) r ∧ Op2 M r addG := by
  refine ⟨_, op_add.or (op_add_str.or op_catA), ?_⟩
  intro φ ψ S H d1 d2 x y Q Wc s r1 r2 p
  unfold addG at p
  split at p
  · simp only [Rep] at r1 r2; subst r1 r2
    exact .inl ⟨_, _, rfl, rfl, p.retD s (by simp only [Rep])⟩
  · simp only [Rep] at r1 r2; subst r1 r2
    split at p
    · rename_i hz
      exact .inr (.inl ⟨_, _, rfl, rfl, hz, p.retD s (by simp only [Rep])⟩)
    · exact p.elim
  · rename_i a b
    split at p
    · rename_i hz
      have r1' := r1
      have r2' := r2
      simp only [Rep] at r1' r2'
      obtain ⟨p1, xs, rfl, h1, h2⟩ := r1'
      obtain ⟨p2, ys, rfl, h3, h4⟩ := r2'
      have l1 := h2.length
      have l2 := h4.length
      refine .inr (.inr ⟨p1, p2, xs, ys, rfl, rfl, by rw [hK]; exact h1, by rw [hK]; exact h3, by omega, fun e => ?_, fun ne e => ?_, fun ne ne' q hq => ?_⟩)
      · subst e
        have e1 : a = [] := by cases a <;> simp_all
        subst e1
        exact p.retD s (by simpa using r2)
      · subst e
        have e1 : b = [] := by cases b <;> simp_all
        subst e1
        exact p.retD s (by simpa using r1)
      · exact p.newD s hq (.tupNew s (h2.append h4) hq)
    · exact p.elim
  · exact p.elim
/-- ints to an int -/
def intG (c : Int → Int → Bool) (f : Int → Int → Int) (S : Sto) : D → D → R D
  | .int i, .int j => if c i j = true then .ok (.int (f i j)) S else .stuck
  | _, _ => .stuck
theorem op_intG {op : Operator} {C : Int → Int → Prop} {c : Int → Int → Bool} {f : Int → Int → Int} (h : OpR X (binaryOp op) (rI C fun i j => .int (f i j))) (hc : ∀ i j, c i j = true → C i j) : ∃ r, OpR X (binaryOp op) r ∧ Op2 M r (intG c f) := by
  refine ⟨_, h, ?_⟩
  intro φ ψ S H d1 d2 x y Q Wc s r1 r2 p
  unfold intG at p
  split at p
  · simp only [Rep] at r1 r2; subst r1 r2
    split at p
    · rename_i i j hz
      exact ⟨_, _, rfl, rfl, hc _ _ hz, p.retD s (by simp only [Rep])⟩
    · exact p.elim
  · exact p.elim
def cMul (i j : Int) : Bool := decide (Builtin.Int.intBits i + Builtin.Int.intBits j ≤ 134217728)
def cDiv (_ j : Int) : Bool := decide (j ≠ 0 ∧ j.natAbs.log2 < 9000)
def cMod (_ j : Int) : Bool := decide (j ≠ 0)
def cPow (i j : Int) : Bool := decide (0 ≤ j ∧ (Builtin.Int.intBits i : Int) * j ≤ 134217728)
def cAny (_ _ : Int) : Bool := true
abbrev subG := intG cAny fun i j => i - j
abbrev mulG := intG cMul fun i j => i * j
abbrev divG := intG cDiv fun i j => i.fdiv j
abbrev modG := intG cMod fun i j => i.fmod j
abbrev powG := intG cPow fun i j => i ^ j.toNat
theorem op_subG : ∃ r, OpR X (binaryOp .Sub) r ∧ Op2 M r subG := op_intG (C := fun _ _ => True) (opI fun _ _ _ _ _ _ _ _ q => PyProof.Rows.sub_int q) fun _ _ _ => trivial
theorem op_mulG : ∃ r, OpR X (binaryOp .Mult) r ∧ Op2 M r mulG := op_intG op_mulX fun i j h => by
  have h := of_decide_eq_true h
  show (_ : Int) + _ ≤ _
  omega
theorem op_divG : ∃ r, OpR X (binaryOp .FloorDiv) r ∧ Op2 M r divG := op_intG (C := fun i j => j ≠ 0 ∧ j.natAbs.log2 < 9000) (opI fun i j _ _ _ _ _ hc q => PyProof.Rows.floordiv_int hc.1 q (.inl (PyProof.noPylong_of_log2 hc.2))) fun _ _ h => of_decide_eq_true h
theorem op_modG : ∃ r, OpR X (binaryOp .Mod) r ∧ Op2 M r modG := op_intG op_modN fun _ _ h => of_decide_eq_true h
theorem op_powG : ∃ r, OpR X (binaryOp .Pow) r ∧ Op2 M r powG := op_intG (C := fun i j => 0 ≤ j ∧ (Builtin.Int.intBits i : Int) * j ≤ 134217728) (opI fun i j _ _ _ _ _ hc q => PyProof.Rows.pow_int hc.1 hc.2 q) fun _ _ h => of_decide_eq_true h

/-! ### the comparisons -/
def eqG (S : Sto) (d e : D) : R Bool := match toPy (view S d), toPy (view S e) with
  | some p, some q => if (SeqAt.shaped p && SeqAt.shaped q) = true then .ok (PyData.eqv p q) S else .stuck
  | _, _ => .stuck
def neG (S : Sto) (d e : D) : R Bool := (eqG S d e).bind fun k S1 => .ok (!k) S1
theorem cm_eqG (hu : X.A.units + 64 < cLine) (hK : X.K = M.K := by rfl) : ∃ r, OpR X (compareOp .Eq) r ∧ Cm2 M r eqG := by
  refine ⟨_, op_eqD hu, ?_⟩
  intro φ ψ S H d1 d2 x y Q Wc s r1 r2 p
  unfold eqG at p
  split at p
  · rename_i a b e1 e2
    split at p
    · rename_i hz
      obtain ⟨z1, z2⟩ := Bool.and_eq_true_iff.mp hz
      exact ⟨a, b, by rw [hK]; exact view_dp s r1 e1, by rw [hK]; exact view_dp s r2 e2, z1, z2, p.retB s⟩
    · exact p.elim
  · exact p.elim
theorem cm_neG (hu : X.A.units + 64 < cLine) (hK : X.K = M.K := by rfl) : ∃ r, OpR X (compareOp .NotEq) r ∧ Cm2 M r neG := by
  refine ⟨_, op_neD hu, ?_⟩
  intro φ ψ S H d1 d2 x y Q Wc s r1 r2 p
  unfold neG eqG at p
  split at p
  · rename_i a b e1 e2
    split at p
    · rename_i hz
      obtain ⟨z1, z2⟩ := Bool.and_eq_true_iff.mp hz
      exact ⟨a, b, by rw [hK]; exact view_dp s r1 e1, by rw [hK]; exact view_dp s r2 e2, z1, z2, (show Post (rpB M ψ) φ H (.ok (!PyData.eqv a b) S) _ _ from p).retB s⟩
    · exact p.elim
  · exact p.elim
def strLt (a b : Str) : Bool := decide (a.cps.toList < b.cps.toList)
/-- ints, texts -/
def ordG (f : Int → Int → Bool) (g : Str → Str → Bool) (S : Sto) : D → D → R Bool
  | .int i, .int j => .ok (f i j) S
  | .str a, .str b => .ok (g a b) S
  | _, _ => .stuck
theorem cm_ordG {op : CmpOp} {f : Int → Int → Bool} {g : Str → Str → Bool} (h1 : OpR X (compareOp op) (rI0 fun i j => .bl (f i j))) (h2 : OpR X (compareOp op) (fun x y H Q => ∃ i j, x = .str i ∧ y = .str j ∧ Q (.bl (g i j)) H)) : ∃ r, OpR X (compareOp op) r ∧ Cm2 M r (ordG f g) := by
  refine ⟨_, h1.or h2, ?_⟩
  intro φ ψ S H d1 d2 x y Q Wc s r1 r2 p
  unfold ordG at p
  split at p
  · simp only [Rep] at r1 r2; subst r1 r2
    exact .inl ⟨_, _, rfl, rfl, p.retB s⟩
  · simp only [Rep] at r1 r2; subst r1 r2
    exact .inr ⟨_, _, rfl, rfl, p.retB s⟩
  · exact p.elim
abbrev ltG := ordG (fun i j => decide (i < j)) strLt
abbrev leG := ordG (fun i j => decide (i ≤ j)) fun a b => !strLt b a
abbrev gtG := ordG (fun i j => decide (j < i)) fun a b => strLt b a
abbrev geG := ordG (fun i j => decide (j ≤ i)) fun a b => !strLt a b
theorem cm_ltG : ∃ r, OpR X (compareOp .Lt) r ∧ Cm2 M r ltG := cm_ordG op_lt op_lt_str
theorem cm_leG : ∃ r, OpR X (compareOp .LtE) r ∧ Cm2 M r leG := cm_ordG op_le op_le_str
theorem cm_gtG : ∃ r, OpR X (compareOp .Gt) r ∧ Cm2 M r gtG := cm_ordG op_gt op_gt_str
theorem cm_geG : ∃ r, OpR X (compareOp .GtE) r ∧ Cm2 M r geG := cm_ordG op_ge op_ge_str
/-- flat data -/
def flatD : D → Bool
  | .non | .bl _ | .int _ | .str _ => true
  | _ => false
def eqF : D → D → Bool
  | .non, .non => true
  | .bl a, .bl b => a == b
  | .bl a, .int b => (if a then 1 else 0) == b
  | .int a, .bl b => a == (if b then 1 else 0)
  | .int a, .int b => a == b
  | .str a, .str b => a == b
  | _, _ => false
/-- a sign in a text, a flat datum in a sequence -/
def inG (S : Sto) (d e : D) : R Bool := match d, e with
  | .str z, .str t => if z.cps.size = 1 then .ok (decide (z.cps.getD 0 0 ∈ t.cps.toList)) S else .stuck
  | d, e => match asS S e with
    | some ds => if (flatD d && ds.all flatD) = true then .ok (ds.any fun x => eqF x d) S else .stuck
    | none => .stuck
def ninG (S : Sto) (d e : D) : R Bool := (inG S d e).bind fun k S1 => .ok (!k) S1
section
variable {φ ψ : List Addr} {S : Sto} {H : Hp}
theorem flat_V {d : D} {v : V} (r : Rep M φ ψ H d v) (h : flatD d = true) : flatV v = true := by
  cases d <;> simp [flatD] at h <;> (simp only [Rep] at r; subst r; rfl)
theorem eqF_V {d e : D} {v w : V} (r : Rep M φ ψ H d v) (r' : Rep M φ ψ H e w) (h : flatD d = true) (h' : flatD e = true) : eqV v w = eqF d e := by
  cases d <;> simp [flatD] at h <;> cases e <;> simp [flatD] at h' <;> (simp only [Rep] at r r'; subst r r'; rfl)
theorem flat_all : ∀ {ds : List D} {vs : List V}, RepL M φ ψ H ds vs → ds.all flatD = true → vs.all flatV = true
  | [], vs, r, _ => by simp only [RepL] at r; subst r; rfl
  | d :: ds, vs, r, h => by
    simp only [RepL] at r
    obtain ⟨x, xs, rfl, h1, h2⟩ := r
    simp only [List.all_cons, Bool.and_eq_true] at h ⊢
    exact ⟨flat_V h1 h.1, flat_all h2 h.2⟩
theorem in_any {e : D} {w : V} (r' : Rep M φ ψ H e w) (h' : flatD e = true) : ∀ {ds : List D} {vs : List V}, RepL M φ ψ H ds vs → ds.all flatD = true → inV w vs = ds.any fun x => eqF x e
  | [], vs, r, _ => by simp only [RepL] at r; subst r; rfl
  | d :: ds, vs, r, h => by
    simp only [RepL] at r
    obtain ⟨x, xs, rfl, h1, h2⟩ := r
    simp only [List.all_cons, Bool.and_eq_true] at h
    have ih := in_any r' h' h2 h.2
    unfold inV at ih ⊢
    rw [List.any_cons, List.any_cons, ih, eqF_V h1 r' h.1 h']
end
theorem sing {z : Str} (h : z.cps.size = 1) : z = ⟨#[z.cps.getD 0 0]⟩ := by
  obtain ⟨⟨l⟩⟩ := z
  match l, h with
  | [c], _ => rfl
theorem cm_inG (hK : X.K = M.K := by rfl) : ∃ r, OpR X (compareOp .In) r ∧ Cm2 M r inG := by
  refine ⟨_, op_in_sign.or op_in_seq, ?_⟩
  intro φ ψ S H d1 d2 x y Q Wc s r1 r2 p
  unfold inG at p
  split at p
  · simp only [Rep] at r1 r2; subst r1 r2
    rename_i z t
    split at p
    · rename_i hz
      refine .inl ⟨z.cps.getD 0 0, t, by rw [← sing hz], rfl, ?_⟩
      exact p.retB s
    · exact p.elim
  · split at p
    · rename_i ds e
      split at p
      · rename_i hz
        obtain ⟨z1, z2⟩ := Bool.and_eq_true_iff.mp hz
        obtain ⟨a, xs, rfl, h1, h2⟩ := at_S s r2 e
        refine .inr ⟨a, xs, rfl, by rw [hK]; exact h1, flat_V r1 z1, flat_all h2 z2, ?_⟩
        show Q (.bl (inV x xs)) H
        rw [in_any r1 z1 h2 z2]
        exact p.retB s
      · exact p.elim
    · exact p.elim
theorem cm_ninG (hK : X.K = M.K := by rfl) : ∃ r, OpR X (compareOp .NotIn) r ∧ Cm2 M r ninG := by
  refine ⟨_, op_notIn_sign.or op_notIn_seq, ?_⟩
  intro φ ψ S H d1 d2 x y Q Wc s r1 r2 p
  unfold ninG inG at p
  split at p
  · simp only [Rep] at r1 r2; subst r1 r2
    rename_i z t
    split at p
    · rename_i hz
      refine .inl ⟨z.cps.getD 0 0, t, by rw [← sing hz], rfl, ?_⟩
      exact (show Post (rpB M ψ) φ H (.ok _ S) _ _ from p).retB s
    · exact p.elim
  · split at p
    · rename_i ds e
      split at p
      · rename_i hz
        obtain ⟨z1, z2⟩ := Bool.and_eq_true_iff.mp hz
        obtain ⟨a, xs, rfl, h1, h2⟩ := at_S s r2 e
        refine .inr ⟨a, xs, rfl, by rw [hK]; exact h1, flat_V r1 z1, flat_all h2 z2, ?_⟩
        show Q (.bl (!inV x xs)) H
        rw [in_any r1 z1 h2 z2]
        exact (show Post (rpB M ψ) φ H (.ok _ S) _ _ from p).retB s
      · exact p.elim
    · exact p.elim
/-- is: None, True, False -/
def isG (S : Sto) (d e : D) : R Bool := match d, e with
  | .bl a, .bl b => .ok (decide (a = b)) S
  | .non, .non => .ok true S
  | _, .non => .ok false S
  | _, _ => .stuck
def nisG (S : Sto) (d e : D) : R Bool := (isG S d e).bind fun k S1 => .ok (!k) S1
theorem rep_non {φ ψ : List Addr} {H : Hp} {d : D} {v : V} (r : Rep M φ ψ H d v) : decide (v = .non) = (match d with | .non => true | _ => false) := by
  cases d <;> simp only [Rep] at r
  case non => subst r; rfl
  case tup => obtain ⟨_, _, rfl, _⟩ := r; rfl
  case lst => obtain ⟨_, _, rfl, _⟩ := r; rfl
  case scr => obtain ⟨_, _, rfl, _⟩ := r; rfl
  case dic => obtain ⟨_, _, rfl, _⟩ := r; rfl
  case exc => obtain ⟨_, _, _, rfl, _⟩ := r; rfl
  case clo => obtain ⟨_, _, rfl, _⟩ := r; rfl
  case ref => obtain ⟨_, rfl, _⟩ := r; rfl
  all_goals subst r; rfl
theorem cm_isG : ∃ r, OpR X (compareOp .Is) r ∧ Cm2 M r isG := by
  refine ⟨_, op_isN.or op_isBl, ?_⟩
  intro φ ψ S H d1 d2 x y Q Wc s r1 r2 p
  unfold isG at p
  split at p
  · simp only [Rep] at r1 r2; subst r1 r2
    exact .inr ⟨_, _, rfl, rfl, p.retB s⟩
  · have e := rep_non r1
    simp only [Rep] at r2; subst r2
    exact .inl ⟨rfl, by rw [e]; exact p.retB s⟩
  · have e := rep_non r1
    simp only [Rep] at r2; subst r2
    refine .inl ⟨rfl, ?_⟩
    rw [e]
    cases d1 <;> first | exact p.retB s | (exfalso; simp_all; done)
  · exact p.elim
theorem cm_nisG : ∃ r, OpR X (compareOp .IsNot) r ∧ Cm2 M r nisG := by
  refine ⟨_, op_notN.or op_notBl, ?_⟩
  intro φ ψ S H d1 d2 x y Q Wc s r1 r2 p
  unfold nisG isG at p
  split at p
  · simp only [Rep] at r1 r2; subst r1 r2
    exact .inr ⟨_, _, rfl, rfl, (show Post (rpB M ψ) φ H (.ok _ S) _ _ from p).retB s⟩
  · have e := rep_non r1
    simp only [Rep] at r2; subst r2
    exact .inl ⟨rfl, by rw [e]; exact (show Post (rpB M ψ) φ H (.ok _ S) _ _ from p).retB s⟩
  · have e := rep_non r1
    simp only [Rep] at r2; subst r2
    refine .inl ⟨rfl, ?_⟩
    rw [e]
    cases d1 <;> first | exact (show Post (rpB M ψ) φ H (.ok true S) _ _ from p).retB s | (exfalso; simp_all; done)
  · exact p.elim
end
end DL
end

section
set_option Elab.async false
set_option linter.all false
set_option maxRecDepth 100000
set_option maxHeartbeats 1000000
/-! DL, part 4: subscripts, slices, calls of built-in functions, methods of lists and texts. -/
namespace DL
open PySem PySem.Spec PyProof.Rows L2

section
variable {M : Mp} {φ ψ : List Addr} {S : Sto} {H : Hp}
theorem atI_rep {ds : List D} {xs : List V} {i : Int} {d : D} (r : RepL M φ ψ H ds xs) (e : atI ds i = some d) : ∃ v, atI xs i = some v ∧ Rep M φ ψ H d v := by
  unfold atI at e ⊢
  rw [r.length] at e
  cases h : ixN xs.length i with
  | none => rw [h] at e; cases e
  | some j =>
    rw [h] at e
    exact r.get e
def cutD (ds : List D) (lo hi : Option Int) : List D := (ds.drop (HT.sIx ds.length 0 lo)).take (HT.sIx ds.length ds.length hi - HT.sIx ds.length 0 lo)
theorem cut_rep {ds : List D} {xs : List V} {lo hi : Option Int} (r : RepL M φ ψ H ds xs) : RepL M φ ψ H (cutD ds lo hi) (cutV xs lo hi) := by
  unfold cutD cutV
  rw [r.length]
  exact (r.drop _).take _
end

/-- d[i] -/
def idxG (S : Sto) (d i : D) : R D := match d, i with
  | .str z, .int i => if z.length ≤ sizeLine then (match atI z.cps.toList i with
    | some c => .ok (.str ⟨#[c]⟩) S
    | none => .stuck) else .stuck
  | d, .int i => match asS S d with
    | some ds => (match atI ds i with
      | some e => .ok e S
      | none => .stuck)
    | none => .stuck
  | _, _ => .stuck
section
variable {X : Cx} {M : Mp} {W : WX} {pos : Pos} {a b : Expr} {ma mb : En → Sto → R D}
theorem de_idx (ha : DE X M W a ma) (hb : DE X M W b mb) (hs : PlainIx b := by exact fun _ _ => rfl) (hK : X.K = M.K := by rfl) : DE X M W (.Subscript a b pos) (op2M idxG ma mb) := by
  refine pe_imp (pe_ix ix_seq ha hb hs) (rd_op2 ?_)
  intro φ ψ S H d1 d2 x y Q Wc s r1 r2 p
  unfold idxG at p
  split at p
  · simp only [Rep] at r1 r2; subst r1 r2
    split at p
    · rename_i hz
      split at p
      · rename_i c e
        exact .inr (.inr ⟨_, _, c, rfl, rfl, hz, e, p.retD s (by simp only [Rep])⟩)
      · exact p.elim
    · exact p.elim
  · split at p
    · rename_i ds e
      split at p
      · rename_i d e2
        have r2' := r2
        simp only [Rep] at r2'
        obtain ⟨p1, xs, rfl, h1, h2⟩ := at_S s r1 e
        obtain ⟨v, e3, r3⟩ := atI_rep h2 e2
        rcases h1 with h1 | h1
        · exact .inl ⟨p1, xs, _, v, rfl, r2', by rw [hK]; exact h1, e3, p.retD s r3⟩
        · exact .inr (.inl ⟨p1, xs, _, v, rfl, r2', by rw [hK]; exact h1, e3, p.retD s r3⟩)
      · exact p.elim
    · exact p.elim
  · exact p.elim

/-! ### slices -/
def DO (X : Cx) (M : Mp) (W : WX) (e : Option Expr) (m : En → Sto → R (Option Int)) : Prop := PO X e (rd M (rpI M) W m)
def noneM : En → Sto → R (Option Int) := fun _ S => .ok none S
def partM (m : En → Sto → R D) : En → Sto → R (Option Int) := fun env S => (m env S).bind fun d S1 => match d with
  | .int i => .ok (some i) S1
  | _ => .stuck
theorem po_imp {e : Option Expr} {t t' : TO} (h : PO X e t) (k : ∀ σ H Q, t' σ H Q → t σ H Q) : PO X e t' := ⟨fun pins s σ H Q I q => h.run pins s σ H Q I (k σ H Q q)⟩
theorem do_none : DO X M W none noneM := po_imp po_none fun σ H Q ⟨env, S, φ, ψ, er, sr, p⟩ => p φ H none (.refl _ _) ⟨sr, rfl⟩
theorem do_some {e : Expr} {m : En → Sto → R D} (h : DE X M W e m) : DO X M W (some e) (partM m) := by
  refine po_imp (po_some h) fun σ H Q h => ?_
  refine rd_bindD h _ fun env φ1 ψ d v S1 H1 er sr r p => ?_
  split at p
  · simp only [Rep] at r; subst r
    exact ⟨_, rfl, p φ1 H1 _ (.refl _ _) ⟨sr, rfl⟩⟩
  · exact p.elim
def sliM {α : Type} (g : Sto → D → Option Int → Option Int → R α) (m : En → Sto → R D) (ml mh : En → Sto → R (Option Int)) : En → Sto → R α := fun env S =>
  (m env S).bind fun d S1 => (ml env S1).bind fun lo S2 => (mh env S2).bind fun hi S3 => g S3 d lo hi
def sliG (S : Sto) (d : D) (lo hi : Option Int) : R D := match d with
  | .str z => if z.length ≤ sizeLine then .ok (.str (cutS z lo hi)) S else .stuck
  | .tup ds => .ok (.tup (cutD ds lo hi)) S
  | d => match asL S d with
    | some ds => .ok (.lst (cutD ds lo hi)) S
    | none => .stuck
def sliF (S : Sto) (d : D) (lo hi : Option Int) : R (List D) := match asL S d with
  | some ds => .ok (cutD ds lo hi) S
  | none => .stuck
theorem rd_sli {γ δ : Type} {rp2 : ∀ ψ, Rp M ψ γ δ} {g : Sto → D → Option Int → Option Int → R γ} {r : V → Option Int → Option Int → Hp → VK → Prop} {ml mh : En → Sto → R (Option Int)} {Q : VK} {Q2 : δ → Hp → Prop}
    (hk : ∀ φ ψ S H d x lo hi Wc, SRel M φ ψ S H → Rep M φ ψ H d x → Post (rp2 ψ) φ H (g S d lo hi) Q2 Wc → r x lo hi H Q) :
    ∀ σ H, rd M rp2 W (sliM g ma ml mh) σ H Q2 → tSl r (rdD M W ma) (rd M (rpI M) W ml) (rd M (rpI M) W mh) σ H Q := fun σ H h => by
  refine rd_bindD h _ fun env φ1 ψ d x S1 H1 er sr r1 p => ?_
  refine ⟨env, S1, φ1, ψ, er, sr, (Post.bind (rp1 := rpI M ψ) p).imp ?_⟩
  rintro lo H2 ⟨φ2, lo', S2, e2, ⟨s2, rfl⟩, p2⟩
  refine ⟨env, S2, φ2, ψ, er.mono s2.ok e2, s2, (Post.bind (rp1 := rpI M ψ) p2).imp ?_⟩
  rintro hi H3 ⟨φ3, hi', S3, e3, ⟨s3, rfl⟩, p3⟩
  exact hk φ3 ψ S3 H3 d x lo' hi' _ s3 (Rep.mono s3.ok (e2.trans e3) _ _ r1) p3
theorem de_sli {lo hi : Option Expr} {ml mh : En → Sto → R (Option Int)} {p2 : Pos} (ha : DE X M W a ma) (hl : DO X M W lo ml) (hh : DO X M W hi mh) (hK : X.K = M.K := by rfl) : DE X M W (.Subscript a (.Slice lo hi none p2) pos) (sliM sliG ma ml mh) := by
  refine pe_imp (pe_slice (sl_str.or (sl_tupA.or sl_list)) ha hl hh) fun σ H Q h => rd_sli (Q2 := Q) ?_ σ H h
  intro φ ψ S H d x lo hi Wc s r p
  unfold sliG at p
  split at p
  · simp only [Rep] at r; subst r
    split at p
    · rename_i hz
      exact .inl ⟨_, rfl, hz, p.retD s (by simp only [Rep])⟩
    · exact p.elim
  · rename_i ds
    have r' := r
    simp only [Rep] at r'
    obtain ⟨q, xs, rfl, h1, h2⟩ := r'
    have hl := h2.length
    refine .inr (.inl ⟨q, xs, rfl, by rw [hK]; exact h1, fun ⟨e1, e2⟩ => ?_, fun _ q' hq => p.newD s hq (.tupNew s (cut_rep h2) hq)⟩)
    have e : cutD ds lo hi = ds := by
      unfold cutD
      rw [hl, e1, e2, List.drop_zero, Nat.sub_zero, List.take_of_length_le (by omega)]
    rw [e] at p
    exact p.retD s r
  · split at p
    · rename_i ds e
      obtain ⟨q, xs, rfl, h1, h2⟩ := at_L s r e
      refine .inr (.inr ⟨q, xs, rfl, by rw [hK]; exact h1, fun q' hq => p.newD s hq ?_⟩)
      simp only [Rep]
      exact ⟨q', _, rfl, (s.notIn hq).1, (s.notIn hq).2, upd_same, RepL.mono s.ok (s.laid hq).1 _ _ (cut_rep h2)⟩
    · exact p.elim
theorem df_sli {lo hi : Option Expr} {ml mh : En → Sto → R (Option Int)} {p2 : Pos} (ha : DE X M W a ma) (hl : DO X M W lo ml) (hh : DO X M W hi mh) (hK : X.K = M.K := by rfl) : DF X M W (.Subscript a (.Slice lo hi none p2) pos) (sliM sliF ma ml mh) := by
  refine pe_imp (pe_slice sl_list ha hl hh) fun σ H Q h => rd_sli (Q2 := Q) ?_ σ H h
  intro φ ψ S H d x lo hi Wc s r p
  unfold sliF at p
  split at p
  · rename_i ds e
    obtain ⟨q, xs, rfl, h1, h2⟩ := at_L s r e
    exact ⟨q, xs, rfl, by rw [hK]; exact h1, fun q' hq => p.newF s hq (cut_rep h2)⟩
  · exact p.elim
/-- xs[::-1] of a list -/
def revF (m : En → Sto → R D) : En → Sto → R (List D) := fun env S => (m env S).bind fun d S1 => match asL S1 d with
  | some ds => .ok ds.reverse S1
  | none => .stuck
theorem df_rev {k : Nat} {p1 p2 p3 : Pos} (ha : DE X M W a ma) (hK : X.K = M.K := by rfl) : DF X M W (.Subscript a (.Slice none none (some (.UnaryOp .USub (.Constant (.int 1) k p1) p2)) p3) pos) (revF ma) := by
  refine pe_imp (pe_revL ha) fun σ H Q h => ?_
  refine rd_bindD h _ fun env φ1 ψ d v S1 H1 er sr r p => ?_
  split at p
  · rename_i ds e
    obtain ⟨q, xs, rfl, h1, h2⟩ := at_L sr r e
    exact ⟨q, xs, rfl, by rw [hK]; exact h1, fun q' hq => p.newF sr hq h2.reverse⟩
  · exact p.elim

/-! ### lists behind one another, many times -/
def catM (ma mb : En → Sto → R D) : En → Sto → R (List D) := fun env S => (ma env S).bind fun d1 S1 => (mb env S1).bind fun d2 S2 => match asX S2 d1, asX S2 d2 with
  | some ds, some es => if ds.length + es.length ≤ sizeLine then .ok (ds ++ es) S2 else .stuck
  | _, _ => .stuck
theorem df_cat (ha : DE X M W a ma) (hb : DE X M W b mb) : DF X M W (.BinOp a .Add b pos) (catM ma mb) := by
  refine pe_imp (pe_op op_cat ha hb) fun σ H Q h => ?_
  refine rd_bindD h _ fun env φ1 ψ d1 x S1 H1 er sr r1 p => ?_
  refine ⟨env, S1, φ1, ψ, er, sr, (Post.bind (rp1 := rpD M ψ) p).imp ?_⟩
  rintro y H2 ⟨φ2, d2, S2, e2, ⟨s2, r2⟩, p2⟩
  have r1' := Rep.mono s2.ok e2 _ _ r1
  split at p2
  · rename_i ds es h1 h2
    split at p2
    · rename_i hz
      obtain ⟨q, xs, rfl, g1, g2⟩ := at_X s2 r1' h1
      obtain ⟨q', ys, rfl, g3, g4⟩ := at_X s2 r2 h2
      exact ⟨q, q', xs, ys, rfl, rfl, g1, g3, by rw [← g2.length, ← g4.length]; exact hz, fun l hl => p2.newF s2 hl (g2.append g4)⟩
    · exact p2.elim
  · exact p2.elim

/-! ### calls of built-in functions -/
def callM {α : Type} (g : Sto → List D → R α) (ms : En → Sto → R (List D)) : En → Sto → R α := fun env S => (ms env S).bind fun ds S1 => g S1 ds
def Call1 (M : Mp) (r : List V → Hp → VK → Prop) (g : Sto → List D → R D) : Prop := ∀ (φ ψ : List Addr) (S : Sto) (H : Hp) (ds : List D) (vs : List V) (Q : VK) (Wc : Value → Option Addr → Hp → Prop),
  SRel M φ ψ S H → RepL M φ ψ H ds vs → Post (rpD M ψ) φ H (g S ds) Q Wc → r vs H Q
def CallF (M : Mp) (r : List V → Hp → VK → Prop) (g : Sto → List D → R (List D)) : Prop := ∀ (φ ψ : List Addr) (S : Sto) (H : Hp) (ds : List D) (vs : List V) (Q : VK) (Wc : Value → Option Addr → Hp → Prop),
  SRel M φ ψ S H → RepL M φ ψ H ds vs → Post (rpF M ψ) φ H (g S ds) Q Wc → r vs H Q
variable {r : List V → Hp → VK → Prop} {e : Expr} {es : List Expr} {ms : En → Sto → R (List D)} {x : Str} {p : Pos}
theorem rd_call1 {g : Sto → List D → R D} (hk : Call1 M r g) : ∀ σ H Q, rdD M W (callM g ms) σ H Q → tCB r (rdA M W ms) σ H Q := fun σ H Q h =>
  rd_bindA h _ fun env φ1 ψ ds vs S1 H1 er sr r1 p => hk φ1 ψ S1 H1 ds vs Q _ sr r1 p
theorem rd_callF {g : Sto → List D → R (List D)} (hk : CallF M r g) : ∀ σ H Q, rdF M W (callM g ms) σ H Q → tCB r (rdA M W ms) σ H Q := fun σ H Q h =>
  rd_bindA h _ fun env φ1 ψ ds vs S1 H1 er sr r1 p => hk φ1 ψ S1 H1 ds vs Q _ sr r1 p
theorem de_bf {id : String} {g : Sto → List D → R D} (hc : CallR X (.builtin id) r) (hk : Call1 M r g) (hm : X.mg x = none) (hv : bootBuiltins x = some (.builtin id)) (ha : DA X M W (e :: es) ms) (hg : Gl X x := by rfl) (hn : x ≠ "__name__" := by decide) (hdb : (x == ("__debug__" : Str)) = false := by decide)
    (he : starEach (e :: es) X.env = (false, eval e X.env) :: starEach es X.env := by rfl) (hpl : (backTo pos (starEach es X.env)).any (·.1) = false := by rfl) : DE X M W (.Call (.Name x p) (e :: es) [] pos) (callM g ms) := pe_imp (pe_callB hc hg hm hv ha hn hdb he hpl) (rd_call1 hk)
theorem de_bt {T : String} {g : Sto → List D → R D} (hc : CallR X (.type T) r) (hk : Call1 M r g) (hm : X.mg x = none) (hv : bootBuiltins x = some (.type T)) (ha : DA X M W (e :: es) ms) (hg : Gl X x := by rfl) (hn : x ≠ "__name__" := by decide) (hdb : (x == ("__debug__" : Str)) = false := by decide)
    (he : starEach (e :: es) X.env = (false, eval e X.env) :: starEach es X.env := by rfl) (hpl : (backTo pos (starEach es X.env)).any (·.1) = false := by rfl) : DE X M W (.Call (.Name x p) (e :: es) [] pos) (callM g ms) := pe_imp (pe_callTy hc hg hm hv ha hn hdb he hpl) (rd_call1 hk)
theorem df_bf {id : String} {g : Sto → List D → R (List D)} (hc : CallR X (.builtin id) r) (hk : CallF M r g) (hm : X.mg x = none) (hv : bootBuiltins x = some (.builtin id)) (ha : DA X M W (e :: es) ms) (hg : Gl X x := by rfl) (hn : x ≠ "__name__" := by decide) (hdb : (x == ("__debug__" : Str)) = false := by decide)
    (he : starEach (e :: es) X.env = (false, eval e X.env) :: starEach es X.env := by rfl) (hpl : (backTo pos (starEach es X.env)).any (·.1) = false := by rfl) : DF X M W (.Call (.Name x p) (e :: es) [] pos) (callM g ms) := pe_imp (pe_callB hc hg hm hv ha hn hdb he hpl) (rd_callF hk)
theorem df_bt {T : String} {g : Sto → List D → R (List D)} (hc : CallR X (.type T) r) (hk : CallF M r g) (hm : X.mg x = none) (hv : bootBuiltins x = some (.type T)) (ha : DA X M W (e :: es) ms) (hg : Gl X x := by rfl) (hn : x ≠ "__name__" := by decide) (hdb : (x == ("__debug__" : Str)) = false := by decide)
    (he : starEach (e :: es) X.env = (false, eval e X.env) :: starEach es X.env := by rfl) (hpl : (backTo pos (starEach es X.env)).any (·.1) = false := by rfl) : DF X M W (.Call (.Name x p) (e :: es) [] pos) (callM g ms) := pe_imp (pe_callTy hc hg hm hv ha hn hdb he hpl) (rd_callF hk)
end

/-! ### what they tell -/
section
variable {M : Mp} {φ ψ : List Addr} {S : Sto} {H : Hp}
theorem RepL.one {d : D} {vs : List V} (r : RepL M φ ψ H [d] vs) : ∃ v, vs = [v] ∧ Rep M φ ψ H d v := by
  simp only [RepL] at r
  obtain ⟨x, _, rfl, h, rfl⟩ := r
  exact ⟨x, rfl, h⟩
theorem RepL.two {d e : D} {vs : List V} (r : RepL M φ ψ H [d, e] vs) : ∃ v w, vs = [v, w] ∧ Rep M φ ψ H d v ∧ Rep M φ ψ H e w := by
  simp only [RepL] at r
  obtain ⟨x, _, rfl, h, y, _, rfl, h', rfl⟩ := r
  exact ⟨x, y, rfl, h, h'⟩
def lenG (S : Sto) : List D → R D
  | [.str z] => if z.length ≤ sizeLine then .ok (.int z.length) S else .stuck
  | [.dic ks ds] => .ok (.int ks.length) S
  | [d] => match asS S d with
    | some ds => .ok (.int ds.length) S
    | none => .stuck
  | _ => .stuck
def absG (S : Sto) : List D → R D
  | [.int i] => .ok (.int (if i < 0 then -i else i)) S
  | _ => .stuck
def intCG (S : Sto) : List D → R D
  | [.int i] => .ok (.int i) S
  | [.bl k] => .ok (.int (if k then 1 else 0)) S
  | _ => .stuck
def max2G (S : Sto) : List D → R D
  | [.int i, .int j] => .ok (.int (if j > i then j else i)) S
  | _ => .stuck
def min2G (S : Sto) : List D → R D
  | [.int i, .int j] => .ok (.int (if j < i then j else i)) S
  | _ => .stuck
def tupCG (S : Sto) : List D → R D
  | [d] => match asS S d with
    | some ds => .ok (.tup ds) S
    | none => .stuck
  | _ => .stuck
def lstCF (S : Sto) : List D → R (List D)
  | [d] => match asS S d with
    | some ds => .ok ds S
    | none => .stuck
  | _ => .stuck
def intsOf : List D → Option (List Int)
  | [] => some []
  | .int i :: ds => (intsOf ds).map (i :: ·)
  | _ => none
def boolsOf : List D → Option (List Bool)
  | [] => some []
  | .bl b :: ds => (boolsOf ds).map (b :: ·)
  | _ => none
theorem ints_rep : ∀ {ds : List D} {xs : List V} {ns : List Int}, RepL M φ ψ H ds xs → intsOf ds = some ns → xs = ns.map V.int
  | [], xs, ns, r, e => by
    simp only [RepL] at r; simp only [intsOf] at e; cases e; exact r
  | .int i :: ds, xs, ns, r, e => by
    simp only [RepL] at r; simp only [intsOf, Option.map_eq_some_iff] at e
    obtain ⟨x, ys, rfl, h1, h2⟩ := r
    obtain ⟨ms, e1, rfl⟩ := e
    simp only [Rep] at h1; subst h1
    rw [ints_rep h2 e1]; rfl
  | .non :: _, _, _, _, e | .bl _ :: _, _, _, _, e | .str _ :: _, _, _, _, e | .tup _ :: _, _, _, _, e | .lst _ :: _, _, _, _, e | .scr _ :: _, _, _, _, e | .dic _ _ :: _, _, _, _, e | .exc _ _ :: _, _, _, _, e | .fn _ :: _, _, _, _, e | .clo _ _ :: _, _, _, _, e | .ref _ :: _, _, _, _, e => by simp [intsOf] at e
theorem bools_rep : ∀ {ds : List D} {xs : List V} {ns : List Bool}, RepL M φ ψ H ds xs → boolsOf ds = some ns → xs = ns.map V.bl
  | [], xs, ns, r, e => by
    simp only [RepL] at r; simp only [boolsOf] at e; cases e; exact r
  | .bl i :: ds, xs, ns, r, e => by
    simp only [RepL] at r; simp only [boolsOf, Option.map_eq_some_iff] at e
    obtain ⟨x, ys, rfl, h1, h2⟩ := r
    obtain ⟨ms, e1, rfl⟩ := e
    simp only [Rep] at h1; subst h1
    rw [bools_rep h2 e1]; rfl
  | .non :: _, _, _, _, e | .int _ :: _, _, _, _, e | .str _ :: _, _, _, _, e | .tup _ :: _, _, _, _, e | .lst _ :: _, _, _, _, e | .scr _ :: _, _, _, _, e | .dic _ _ :: _, _, _, _, e | .exc _ _ :: _, _, _, _, e | .fn _ :: _, _, _, _, e | .clo _ _ :: _, _, _, _, e | .ref _ :: _, _, _, _, e => by simp [boolsOf] at e
def sumG (S : Sto) : List D → R D
  | [d] => match asL S d with
    | some ds => (match intsOf ds with
      | some ns => .ok (.int ns.sum) S
      | none => .stuck)
    | none => .stuck
  | _ => .stuck
def allG (S : Sto) : List D → R D
  | [d] => match asL S d with
    | some ds => (match boolsOf ds with
      | some bs => .ok (.bl (bs.all id)) S
      | none => .stuck)
    | none => .stuck
  | _ => .stuck
def anyG (S : Sto) : List D → R D
  | [d] => match asL S d with
    | some ds => (match boolsOf ds with
      | some bs => .ok (.bl (bs.any id)) S
      | none => .stuck)
    | none => .stuck
  | _ => .stuck
end
section
variable {X : Cx} {M : Mp}
theorem c_len (hK : X.K = M.K := by rfl) : ∃ r, CallR X (.builtin "len") r ∧ Call1 M r lenG := by
  refine ⟨_, call_len_str.or (call_lenD.or call_len_seq), ?_⟩
  intro φ ψ S H ds vs Q Wc s r p
  unfold lenG at p
  split at p
  · obtain ⟨v, rfl, h⟩ := r.one
    simp only [Rep] at h; subst h
    split at p
    · rename_i hz
      exact .inl ⟨_, rfl, hz, p.retD s (by simp only [Rep])⟩
    · exact p.elim
  · obtain ⟨v, rfl, h⟩ := r.one
    simp only [Rep] at h
    obtain ⟨a, xs, rfl, _, _, h3, h4, _⟩ := h
    refine .inr (.inl ⟨a, _, rfl, h3, p.retD s ?_⟩)
    simp only [Rep, List.length_zip, List.length_map, h4, Nat.min_self]
  · obtain ⟨v, rfl, h⟩ := r.one
    split at p
    · rename_i es e
      obtain ⟨q, xs, rfl, h1, h2⟩ := at_S s h e
      refine .inr (.inr ⟨q, xs, rfl, by rw [hK]; exact h1, p.retD s ?_⟩)
      simp only [Rep, h2.length]
    · exact p.elim
  · exact p.elim
theorem c_abs : ∃ r, CallR X (.builtin "abs") r ∧ Call1 M r absG := by
  refine ⟨_, call_abs, ?_⟩
  intro φ ψ S H ds vs Q Wc s r p
  unfold absG at p
  split at p
  · obtain ⟨v, rfl, h⟩ := r.one
    simp only [Rep] at h; subst h
    exact ⟨_, rfl, p.retD s (by simp only [Rep])⟩
  · exact p.elim
theorem c_int : ∃ r, CallR X (.type "int") r ∧ Call1 M r intCG := by
  refine ⟨_, call_int1, ?_⟩
  intro φ ψ S H ds vs Q Wc s r p
  unfold intCG at p
  split at p
  · obtain ⟨v, rfl, h⟩ := r.one
    simp only [Rep] at h; subst h
    exact .inl ⟨_, rfl, p.retD s (by simp only [Rep])⟩
  · obtain ⟨v, rfl, h⟩ := r.one
    simp only [Rep] at h; subst h
    exact .inr ⟨_, rfl, p.retD s (by simp only [Rep])⟩
  · exact p.elim
theorem c_max2 (hc : X.calm = true) : ∃ r, CallR X (.builtin "max") r ∧ Call1 M r max2G := by
  refine ⟨_, call_max2 hc, ?_⟩
  intro φ ψ S H ds vs Q Wc s r p
  unfold max2G at p
  split at p
  · obtain ⟨v, w, rfl, h, h'⟩ := r.two
    simp only [Rep] at h h'; subst h h'
    exact ⟨_, _, rfl, p.retD s (by simp only [Rep])⟩
  · exact p.elim
theorem c_min2 (hc : X.calm = true) : ∃ r, CallR X (.builtin "min") r ∧ Call1 M r min2G := by
  refine ⟨_, call_min2 hc, ?_⟩
  intro φ ψ S H ds vs Q Wc s r p
  unfold min2G at p
  split at p
  · obtain ⟨v, w, rfl, h, h'⟩ := r.two
    simp only [Rep] at h h'; subst h h'
    exact ⟨_, _, rfl, p.retD s (by simp only [Rep])⟩
  · exact p.elim
theorem c_tup (hK : X.K = M.K := by rfl) : ∃ r, CallR X (.type "tuple") r ∧ Call1 M r tupCG := by
  refine ⟨_, call_tuple_of, ?_⟩
  intro φ ψ S H ds vs Q Wc s r p
  unfold tupCG at p
  split at p
  · rename_i d
    obtain ⟨v, rfl, h⟩ := r.one
    split at p
    · rename_i es e
      cases d with
      | tup fs =>
        simp only [asS, Option.some.injEq] at e
        subst e
        have h' := h
        simp only [Rep] at h'
        obtain ⟨q, xs, rfl, h1, h2⟩ := h'
        exact ⟨q, xs, rfl, .inr ⟨by rw [hK]; exact h1, p.retD s h⟩⟩
      | _ =>
        obtain ⟨q, xs, rfl, h1, h2⟩ := at_L s h (by simpa [asS] using e)
        exact ⟨q, xs, rfl, .inl ⟨by rw [hK]; exact h1, fun l hl => p.newD s hl (.tupNew s h2 hl)⟩⟩
    · exact p.elim
  · exact p.elim
theorem c_lst (hK : X.K = M.K := by rfl) : ∃ r, CallR X (.type "list") r ∧ CallF M r lstCF := by
  refine ⟨_, call_list_of, ?_⟩
  intro φ ψ S H ds vs Q Wc s r p
  unfold lstCF at p
  split at p
  · obtain ⟨v, rfl, h⟩ := r.one
    split at p
    · rename_i d es e
      obtain ⟨q, xs, rfl, h1, h2⟩ := at_S s h e
      exact ⟨q, xs, rfl, by rw [hK]; exact h1, fun l hl => p.newF s hl h2⟩
    · exact p.elim
  · exact p.elim
theorem c_sum (hc : X.calm = true) (hK : X.K = M.K := by rfl) : ∃ r, CallR X (.builtin "sum") r ∧ Call1 M r sumG := by
  refine ⟨_, cr_sum hc, ?_⟩
  intro φ ψ S H ds vs Q Wc s r p
  unfold sumG at p
  split at p
  · obtain ⟨v, rfl, h⟩ := r.one
    split at p
    · rename_i d es e
      obtain ⟨q, xs, rfl, h1, h2⟩ := at_L s h e
      split at p
      · rename_i ns e2
        exact ⟨q, ns, rfl, by rw [hK, ← ints_rep h2 e2]; exact h1, p.retD s (by simp only [Rep])⟩
      · exact p.elim
    · exact p.elim
  · exact p.elim
theorem c_all (hc : X.calm = true) (hK : X.K = M.K := by rfl) : ∃ r, CallR X (.builtin "all") r ∧ Call1 M r allG := by
  refine ⟨_, cr_all hc, ?_⟩
  intro φ ψ S H ds vs Q Wc s r p
  unfold allG at p
  split at p
  · obtain ⟨v, rfl, h⟩ := r.one
    split at p
    · rename_i d es e
      obtain ⟨q, xs, rfl, h1, h2⟩ := at_L s h e
      split at p
      · rename_i ns e2
        exact ⟨q, ns, rfl, by rw [hK, ← bools_rep h2 e2]; exact h1, p.retD s (by simp only [Rep])⟩
      · exact p.elim
    · exact p.elim
  · exact p.elim
theorem c_any (hc : X.calm = true) (hK : X.K = M.K := by rfl) : ∃ r, CallR X (.builtin "any") r ∧ Call1 M r anyG := by
  refine ⟨_, cr_any hc, ?_⟩
  intro φ ψ S H ds vs Q Wc s r p
  unfold anyG at p
  split at p
  · obtain ⟨v, rfl, h⟩ := r.one
    split at p
    · rename_i d es e
      obtain ⟨q, xs, rfl, h1, h2⟩ := at_L s h e
      split at p
      · rename_i ns e2
        exact ⟨q, ns, rfl, by rw [hK, ← bools_rep h2 e2]; exact h1, p.retD s (by simp only [Rep])⟩
      · exact p.elim
    · exact p.elim
  · exact p.elim
end

/-! ### isinstance of a built-in class -/
def tyName (S : Sto) : D → Option String
  | .non => some "NoneType"
  | .bl _ => some "bool"
  | .int _ => some "int"
  | .str _ => some "str"
  | .tup _ => some "tuple"
  | .lst _ => some "list"
  | .scr _ => some "list"
  | .dic _ _ => some "dict"
  | .ref n => match S[n]? with
    | some (.lst _) => some "list"
    | none => none
  | .exc _ _ | .fn _ | .clo _ _ => none
/-- the classes that are asked for -/
inductive Ty where
  | bool | int | str | tuple | list | dict
def Ty.name : Ty → String
  | .bool => "bool" | .int => "int" | .str => "str" | .tuple => "tuple" | .list => "list" | .dict => "dict"
/-- whether a datum of the class t is one of the class u -/
def isTy (t : String) : Ty → Bool
  | .bool => t == "bool"
  | .int => t == "int" || t == "bool"
  | .str => t == "str"
  | .tuple => t == "tuple"
  | .list => t == "list"
  | .dict => t == "dict"
def isiM (u : Ty) (m : En → Sto → R D) : En → Sto → R D := fun env S => (m env S).bind fun d S1 => match tyName S1 d with
  | some t => .ok (.bl (isTy t u)) S1
  | none => .stuck
theorem ty_x {M : Mp} {φ ψ : List Addr} {S : Sto} {H : Hp} (s : SRel M φ ψ S H) {d : D} {v : V} {t : String} (r : Rep M φ ψ H d v) (e : tyName S d = some t) : TyX M.K H v (.type t) := by
  cases d <;> simp only [tyName, Option.some.injEq] at e
  case non => subst e; simp only [Rep] at r; subst r; exact .base .non
  case bl => subst e; simp only [Rep] at r; subst r; exact .base (.bl _)
  case int => subst e; simp only [Rep] at r; subst r; exact .base (.int _)
  case str => subst e; simp only [Rep] at r; subst r; exact .base (.str _)
  case tup =>
    subst e; simp only [Rep] at r
    obtain ⟨a, xs, rfl, h, _⟩ := r
    rcases h with (h | ⟨o, h⟩) | ⟨o, its, n, h1, h2, _⟩
    · exact .base (.tup h)
    · exact .fTuple h
    · exact .kTuple h1 h2
  case lst =>
    subst e; simp only [Rep] at r
    obtain ⟨a, xs, rfl, _, _, h, _⟩ := r
    exact .base (.lst h)
  case scr =>
    subst e; simp only [Rep] at r
    obtain ⟨a, xs, rfl, h, _⟩ := r
    rcases h with ⟨o, h⟩ | ⟨o, its, n, h1, h2, _⟩
    · exact .base (.frz h)
    · exact .kList h1 h2
  case dic =>
    subst e; simp only [Rep] at r
    obtain ⟨a, xs, rfl, _, _, h, _⟩ := r
    exact .base (.dK h)
  case ref n =>
    split at e
    · rename_i ds he
      cases e
      obtain ⟨a, xs, rfl, h, _⟩ := at_X s r (show asX S (.ref n) = some ds by simp [asX, he])
      exact .base (.lst h)
    · cases e
  all_goals cases e
theorem kit_isTy : ∀ t ∈ ["NoneType", "bool", "int", "str", "tuple", "list", "dict"], ∀ u : Ty, kitB t u.name = some (isTy t u) := by
  intro t ht u
  simp only [List.mem_cons, List.not_mem_nil, or_false] at ht
  rcases ht with rfl | rfl | rfl | rfl | rfl | rfl | rfl <;> cases u <;> decide +kernel
theorem tyName_mem {S : Sto} {d : D} {t : String} (e : tyName S d = some t) : t ∈ ["NoneType", "bool", "int", "str", "tuple", "list", "dict"] := by
  cases d <;> simp only [tyName, Option.some.injEq] at e
  case ref n =>
    split at e
    · cases e; simp
    · cases e
  all_goals first | (subst e; simp; done) | cases e
section
variable {X : Cx} {M : Mp} {W : WX} {pos p p' : Pos} {a : Expr} {ma : En → Sto → R D} {x : Str}
theorem de_isi (u : Ty) (hm : X.mg "isinstance" = none) (hx : X.mg x = none) (hv : bootBuiltins x = some (.type u.name)) (ha : DE X M W a ma) (hK : X.K = M.K := by rfl) (hg : Gl X "isinstance" := by rfl) (hgx : Gl X x := by rfl) (hn : x ≠ "__name__" := by decide) (hdb : (x == ("__debug__" : Str)) = false := by decide)
    (he : starEach [a, .Name x p'] X.env = (false, eval a X.env) :: starEach [.Name x p'] X.env := by rfl) (he2 : starEach [.Name x p'] X.env = (false, eval (.Name x p') X.env) :: starEach [] X.env := by rfl) (hpl : (backTo pos (starEach [.Name x p'] X.env)).any (·.1) = false := by rfl) :
    DE X M W (.Call (.Name "isinstance" p) [a, .Name x p'] [] pos) (isiM u ma) := by
  refine pe_imp (pe_callB call_isi hg hm (by decide +kernel) (pa_cons ha (pa_cons (pe_bltn (v := .ty u.name) hgx hx hv rfl hn hdb) pa_nil he2) he) (by decide) (by decide) he hpl) fun σ H Q h => ?_
  refine rd_bindD h _ fun env φ1 ψ d v S1 H1 er sr r q => ?_
  split at q
  · rename_i t e
    exact ⟨v, .ty u.name, .type t, .type u.name, isTy t u, rfl, .ty _, by rw [hK]; exact ty_x sr r e, kit_ty (kit_isTy t (tyName_mem e) u), q.retD sr (by simp only [Rep])⟩
  · exact q.elim

/-! ### methods -/
/-- the machine's extend, the other side being a tuple of any dict and slots -/
theorem ext_tup (l : Addr) (mine : Array Value) (n : Nat) (b : Addr) (dd : Option Addr) (more : Array Value) (n2 : Nat) (sl : Array (Option Value)) (few : ¬(!mine.isEmpty && Builtin.List.listTooLong (mine.size + more.size)) = true) (hm : mine.size ≤ sizeLine) (hz : mine.size + more.size ≤ sizeLine + 1) :
    Meets (Builtin.«list.extend» ⟨[.ref l, .ref b], []⟩) (fun _ R s => s.heap.get? l = some { cls := .type "list", dict := none, data := .seq mine n, slots := #[] } ∧ s.heap.get? b = some ⟨.type "tuple", dd, .seq more n2, sl⟩ ∧ R (.ok (.ret Value.none)) { s with heap := s.heap.update l (Obj.mapSeq fun x => x ++ more), toks := s.toks }) := by
  refine .of_wp fun prog w A R s q => ?_
  obtain ⟨hp, g, d, tk, os⟩ := s
  obtain ⟨hl, hb, q⟩ := q
  have z : (mine ++ more).size ≤ sizeLine + 1 := by rw [Array.size_append]; exact hz
  have k1 := AutoSeq1.idx_int
  have k2 := AutoSeq1.sub_tuple_tuple
  have k3 := AutoSeq1.sub_list_list
  have k4 := AutoSeq1.sub_tuple_list
  have k5 := AutoSeq1.sub_list_tuple
  wp_walk using (wpAny_updateSeq hl rfl (hz := hm) (_hz' := z)), AutoSeq1.wpAny_loadPart' hl, AutoSeq1.wpAny_loadPart' hb
  exact ⟨_, rfl, q⟩
section
variable {X : Cx}
def rExtT (K : PySem.W.Frag) : V → List V → Hp → VK → Prop := fun x vs H Q => ∃ l b xs zs, x = .ref l ∧ vs = [.ref b] ∧ H l = some (.lst xs) ∧ SqT K H b zs ∧ xs.length + zs.length ≤ sizeLine ∧ Q .non (upd H l (.lst (xs ++ zs)))
theorem mt_extT : MtM X "list.extend" (rExtT X.K) := by
  intro pins s σ H x vs v us Q I rx rv ⟨l, b, xs, zs, ex, ev, hH, hB, hz, q⟩
  subst ex ev
  cases rx
  obtain ⟨u, rfl, ru⟩ := rv.one
  cases ru
  obtain ⟨z, its, n, r, hl, e⟩ := I.lstM hH
  obtain ⟨its2, r2, ht, hz2⟩ := I.tuple hB
  have hl2 := r2.length
  obtain ⟨⟨oc, od, dt, sl⟩, e2, hc, n2, hd⟩ := ht
  simp only at hc hd
  subst hc hd
  have few : ¬ (!its.toArray.isEmpty && Builtin.List.listTooLong (its.toArray.size + its2.toArray.size)) = true := by
    rw [notLongL (by simp only [List.size_toArray]; omega), Bool.and_false]
    exact Bool.false_ne_true
  refine call_meets F.slot_list_extend ⟨_, e, rfl⟩ F.entry_list_extend (F.args_list_extend_2 _ _) (ext_tup l its.toArray n b od its2.toArray n2 sl few (by simp only [List.size_toArray]; omega) (by simp only [List.size_toArray]; omega)) ⟨e, e2, .non, _, I.lset (its' := its ++ its2) hH e (by simp) (r.append r2) (by rw [List.length_append]; omega), rfl, q⟩
def rExt2 (K : PySem.W.Frag) : V → List V → Hp → VK → Prop := fun x vs H Q => rExtend x vs H Q ∨ rExtT K x vs H Q
theorem mt_ext2 : MtM X "list.extend" (rExt2 X.K) := by
  intro pins s σ H x vs v us Q I rx rv h
  rcases h with h | h
  · exact mt_extend pins s σ H x vs v us Q I rx rv h
  · exact mt_extT pins s σ H x vs v us Q I rx rv h
end
/-- a list of ours as a receiver -/
def recv (S : Sto) : D → Option Nat
  | .ref n => match S[n]? with
    | some (.lst _) => some n
    | none => none
  | _ => none
def recvM (mo : En → Sto → R D) (k : Nat → En → Sto → R D) : En → Sto → R D := fun env S => (mo env S).bind fun o S1 => match recv S1 o with
  | some n => k n env S1
  | none => .stuck
def app1 (S : Sto) (n : Nat) (d : D) : R D := match S[n]? with
  | some (.lst ds) => if ds.length < sizeLine then .ok .non (S.set n (.lst (ds ++ [d]))) else .stuck
  | none => .stuck
/-- a list or a tuple -/
def asE (S : Sto) : D → Option (List D)
  | .tup ds => some ds
  | d => asX S d
def ext1 (S : Sto) (n : Nat) (d : D) : R D := match S[n]?, asE S d with
  | some (.lst ds), some es => if ds.length + es.length ≤ sizeLine then .ok .non (S.set n (.lst (ds ++ es))) else .stuck
  | _, _ => .stuck
def pop1 (S : Sto) (n : Nat) : R D := match S[n]? with
  | some (.lst ds) => (match ds[ds.length - 1]? with
    | some d => .ok d (S.set n (.lst ds.dropLast))
    | none => .stuck)
  | none => .stuck
def popAt1 (S : Sto) (n : Nat) (d : D) : R D := match S[n]?, d with
  | some (.lst ds), .int i => if 0 ≤ i ∧ ds.length < 2 ^ 63 then (match ds[i.toNat]? with
      | some d => .ok d (S.set n (.lst (ds.eraseIdx i.toNat)))
      | none => .stuck) else .stuck
  | _, _ => .stuck
def appM (mo ma : En → Sto → R D) : En → Sto → R D := recvM mo fun n env S => (ma env S).bind fun d S2 => app1 S2 n d
def extM (mo ma : En → Sto → R D) : En → Sto → R D := recvM mo fun n env S => (ma env S).bind fun d S2 => ext1 S2 n d
def popM (mo : En → Sto → R D) : En → Sto → R D := recvM mo fun n _ S => pop1 S n
def popAtM (mo ma : En → Sto → R D) : En → Sto → R D := recvM mo fun n env S => (ma env S).bind fun d S2 => popAt1 S2 n d
theorem RepL.dropLast {φ ψ : List Addr} {H : Hp} {ds : List D} {xs : List V} (r : RepL M φ ψ H ds xs) : RepL M φ ψ H ds.dropLast xs.dropLast := by
  rw [List.dropLast_eq_take, List.dropLast_eq_take, r.length]
  exact r.take _
theorem RepL.eraseIdx {φ ψ : List Addr} {H : Hp} {ds : List D} {xs : List V} (n : Nat) (r : RepL M φ ψ H ds xs) : RepL M φ ψ H (ds.eraseIdx n) (xs.eraseIdx n) := by
  rw [List.eraseIdx_eq_take_drop_succ, List.eraseIdx_eq_take_drop_succ]
  exact (r.take _).append (r.drop _)
/-- an object of ours that a method changes -/
theorem ref_at {φ ψ : List Addr} {S : Sto} {H : Hp} {n : Nat} {v : V} {ds : List D} (s : SRel M φ ψ S H) (r : Rep M φ ψ H (.ref n) v) (e : S[n]? = some (.lst ds)) : ∃ a xs, v = .ref a ∧ φ[n]? = some a ∧ H a = some (.lst xs) ∧ RepL M φ ψ H ds xs := by
  simp only [Rep] at r
  obtain ⟨a, rfl, ha⟩ := r
  obtain ⟨xs, h1, h2⟩ := s.obj n a _ ha e
  exact ⟨a, xs, rfl, ha, h1, h2⟩
theorem Post.put {φ ψ : List Addr} {H : Hp} {S : Sto} {d : D} {n : Nat} {a : Addr} {o : O} {ds : List D} {xs : List V} {Q : V → Hp → Prop} {Wc : Value → Option Addr → Hp → Prop} (p : Post (rpD M ψ) φ H (.ok d (S.set n (.lst ds))) Q Wc) (s : SRel M φ ψ S H) (ha : φ[n]? = some a) (ho : S[n]? = some o) (r : RepL M φ ψ H ds xs) {v : V}
    (rv : Rep M φ ψ H d v) : Q v (upd H a (.lst xs)) :=
  let ⟨e, s'⟩ := s.put ha ho r
  p φ _ v e ⟨s', Rep.mono s.ok e _ _ rv⟩
variable {o : Expr} {mo : En → Sto → R D} {apos : Pos}
theorem recv_ty {φ ψ : List Addr} {S : Sto} {H : Hp} (s : SRel M φ ψ S H) {d : D} {v : V} {n : Nat} (r : Rep M φ ψ H d v) (e : recv S d = some n) : d = .ref n ∧ tyV M.K "list" v H := by
  unfold recv at e
  split at e
  · split at e
    · rename_i ds he
      cases e
      obtain ⟨a, xs, rfl, _, h1, h2⟩ := ref_at s r he
      exact ⟨rfl, .inl ⟨rfl, xs, SqL.of h1⟩⟩
    · cases e
  · cases e
/-- a method with one argument -/
theorem rd_meth1 {r : V → List V → Hp → VK → Prop} {g : Sto → Nat → D → R D} (hK : X.K = M.K) (hk : ∀ φ ψ S H n x d y (Q : VK) Wc, SRel M φ ψ S H → Rep M φ ψ H (.ref n) x → Rep M φ ψ H d y → Post (rpD M ψ) φ H (g S n d) Q Wc → r x [y] H Q) :
    ∀ σ H Q, rdD M W (recvM mo fun n env S => (ma env S).bind fun d S2 => g S2 n d) σ H Q → tBM X.K "list" r (rdD M W mo) (tCons (rdD M W ma) tNil) σ H Q := fun σ H Q h => by
  refine rd_bindD h _ fun env φ1 ψ d1 x S1 H1 er sr r1 q => ?_
  split at q
  · rename_i n e
    obtain ⟨rfl, ty⟩ := recv_ty sr r1 e
    refine ⟨by rw [hK]; exact ty, ?_⟩
    refine ⟨env, S1, φ1, ψ, er, sr, (Post.bind (rp1 := rpD M ψ) q).imp ?_⟩
    rintro y H2 ⟨φ2, d2, S2, e2, ⟨s2, r2⟩, q2⟩
    exact hk φ2 ψ S2 H2 n x d2 y Q _ s2 (Rep.mono s2.ok e2 _ _ r1) r2 q2
  · exact q.elim
abbrev Few (X : Cx) (pos : Pos) (a : Expr) : Prop := ((backTo pos (starEach [a] X.env)).all (fun x => !x.1) && (backToKw pos (keywordEach [] X.env)).all (fun x => x.1.isSome) && decide ([a].length + ([] : List Keyword).length + (if ([] : List Keyword).isEmpty then 0 else 1) < 30)) = true
theorem de_append (ho : DE X M W o mo) (ha : DE X M W a ma) (hK : X.K = M.K := by rfl) (hbase : attributeBase o "append" X.env (eval o X.env) = eval o X.env := by rfl) (hfew : Few X pos a := by rfl)
    (hline : (apos.endLine == pos.line) = true := by rfl) (hs : starEach [a] X.env = (false, eval a X.env) :: starEach [] X.env := by rfl) (hplain : (backTo pos (starEach [] X.env)).any (·.1) = false := by rfl) :
    DE X M W (.Call (.Attribute o "append" apos) [a] [] pos) (appM mo ma) := by
  refine pe_imp (pe_bm PySem.F.plainAttrs_list PySem.F.slot_list_append PySem.F.type_list_append mt_append ho (pa_cons ha pa_nil hs) hbase hfew hline hs hplain) (rd_meth1 hK ?_)
  intro φ ψ S H n x d y Q Wc s r1 r2 q
  unfold app1 at q
  split at q
  · rename_i ds he
    split at q
    · rename_i hz
      obtain ⟨l, xs, rfl, hl, h1, h2⟩ := ref_at s r1 he
      exact ⟨l, xs, y, rfl, rfl, h1, by rw [← h2.length]; exact hz, q.put s hl he (h2.append (.cons r2 .nil)) (by simp only [Rep])⟩
    · exact q.elim
  · exact q.elim
theorem de_extend (ho : DE X M W o mo) (ha : DE X M W a ma) (hK : X.K = M.K := by rfl) (hbase : attributeBase o "extend" X.env (eval o X.env) = eval o X.env := by rfl) (hfew : Few X pos a := by rfl)
    (hline : (apos.endLine == pos.line) = true := by rfl) (hs : starEach [a] X.env = (false, eval a X.env) :: starEach [] X.env := by rfl) (hplain : (backTo pos (starEach [] X.env)).any (·.1) = false := by rfl) :
    DE X M W (.Call (.Attribute o "extend" apos) [a] [] pos) (extM mo ma) := by
  refine pe_imp (pe_bm PySem.F.plainAttrs_list PySem.F.slot_list_extend PySem.F.type_list_extend mt_ext2 ho (pa_cons ha pa_nil hs) hbase hfew hline hs hplain) (rd_meth1 hK ?_)
  intro φ ψ S H n x d y Q Wc s r1 r2 q
  unfold ext1 at q
  split at q
  · rename_i ds es he he2
    split at q
    · rename_i hz
      obtain ⟨l, xs, rfl, hl, h1, h2⟩ := ref_at s r1 he
      have list : asX S d = some es → rExt2 X.K (.ref l) [y] H Q := fun he2 => by
        obtain ⟨b, ys, rfl, g1, g2⟩ := at_X s r2 he2
        exact .inl ⟨l, b, xs, ys, rfl, rfl, h1, g1, by rw [← h2.length, ← g2.length]; exact hz, q.put s hl he (h2.append g2) (by simp only [Rep])⟩
      cases d with
      | tup fs =>
        simp only [asE, Option.some.injEq] at he2
        subst he2
        simp only [Rep] at r2
        obtain ⟨b, ys, rfl, g1, g2⟩ := r2
        exact .inr ⟨l, b, xs, ys, rfl, rfl, h1, by rw [hK]; exact g1, by rw [← h2.length, ← g2.length]; exact hz, q.put s hl he (h2.append g2) (by simp only [Rep])⟩
      | _ => exact list he2
    · exact q.elim
  · exact q.elim
theorem de_pop (ho : DE X M W o mo) (hK : X.K = M.K := by rfl) (hbase : attributeBase o "pop" X.env (eval o X.env) = eval o X.env := by rfl)
    (hline : (apos.endLine == pos.line) = true := by rfl) : DE X M W (.Call (.Attribute o "pop" apos) [] [] pos) (popM mo) := by
  refine pe_imp (pe_bm0 PySem.F.plainAttrs_list PySem.F.slot_list_pop PySem.F.type_list_pop mt_pop ho hbase hline) fun σ H Q h => ?_
  refine rd_bindD h _ fun env φ1 ψ d1 x S1 H1 er sr r1 q => ?_
  split at q
  · rename_i n e
    obtain ⟨rfl, ty⟩ := recv_ty sr r1 e
    refine ⟨by rw [hK]; exact ty, ?_⟩
    unfold pop1 at q
    dsimp only at q
    split at q
    · rename_i ds he
      split at q
      · rename_i d hd
        obtain ⟨l, xs, rfl, hl, h1, h2⟩ := ref_at sr r1 he
        obtain ⟨v, hv, rv⟩ := h2.get hd
        exact ⟨l, xs, v, rfl, rfl, h1, by rw [← h2.length]; exact hv, q.put sr hl he h2.dropLast rv⟩
      · exact q.elim
    · exact q.elim
  · exact q.elim
theorem de_popAt (ho : DE X M W o mo) (ha : DE X M W a ma) (hK : X.K = M.K := by rfl) (hbase : attributeBase o "pop" X.env (eval o X.env) = eval o X.env := by rfl) (hfew : Few X pos a := by rfl)
    (hline : (apos.endLine == pos.line) = true := by rfl) (hs : starEach [a] X.env = (false, eval a X.env) :: starEach [] X.env := by rfl) (hplain : (backTo pos (starEach [] X.env)).any (·.1) = false := by rfl) :
    DE X M W (.Call (.Attribute o "pop" apos) [a] [] pos) (popAtM mo ma) := by
  refine pe_imp (pe_bm PySem.F.plainAttrs_list PySem.F.slot_list_pop PySem.F.type_list_pop mt_popAt ho (pa_cons ha pa_nil hs) hbase hfew hline hs hplain) (rd_meth1 hK ?_)
  intro φ ψ S H n x d y Q Wc s r1 r2 q
  unfold popAt1 at q
  split at q
  · rename_i ds i he
    split at q
    · rename_i hz
      split at q
      · rename_i d hd
        obtain ⟨l, xs, rfl, hl, h1, h2⟩ := ref_at s r1 he
        obtain ⟨v, hv, rv⟩ := h2.get hd
        simp only [Rep] at r2; subst r2
        have hlt : i.toNat < ds.length := (List.getElem?_eq_some_iff.mp hd).1
        have hlen := h2.length
        refine ⟨l, xs, i, i.toNat, v, rfl, rfl, h1, by omega, by omega, ?_, hv, q.put s hl he (h2.eraseIdx _) rv⟩
        exact PySem.seqIndex_of hz.1 (by omega)
      · exact q.elim
    · exact q.elim
  · exact q.elim
/-- text.upper() -/
def upM (mo : En → Sto → R D) : En → Sto → R D := fun env S => (mo env S).bind fun o S1 => match o with
  | .str z => if z.length ≤ 5592405 then .ok (.str (Txt.upper z)) S1 else .stuck
  | _ => .stuck
theorem de_upper (ho : DE X M W o mo) (hK : X.K = M.K := by rfl) (hbase : attributeBase o "upper" X.env (eval o X.env) = eval o X.env := by rfl)
    (hline : (apos.endLine == pos.line) = true := by rfl) : DE X M W (.Call (.Attribute o "upper" apos) [] [] pos) (upM mo) := by
  refine pe_imp (pe_bm0 PySem.F.plainAttrs_str PySem.F.slot_str_upper PySem.F.type_str_upper mt_upper ho hbase hline) fun σ H Q h => ?_
  refine rd_bindD h _ fun env φ1 ψ d1 x S1 H1 er sr r1 q => ?_
  split at q
  · split at q
    · rename_i z hz
      simp only [Rep] at r1; subst r1
      exact ⟨rfl, z, rfl, rfl, hz, q.retD sr (by simp only [Rep])⟩
    · exact q.elim
  · exact q.elim
end
end DL
end

section
set_option Elab.async false
set_option linter.all false
set_option maxRecDepth 100000
set_option maxHeartbeats 1000000
/-! DL, part 5: targets, what is walked, comprehensions. -/
namespace DL
open PySem PySem.Spec PyProof.Rows L2

/-! ### targets: names, tuples of them -/
def setE (env : En) : List Nat → List D → En
  | i :: is, d :: ds => setE (env.set i (some d)) is ds
  | _, _ => env
def setV (σ : L2.St) : List Nat → List V → L2.St
  | i :: is, v :: vs => setV (σ.set i (some v)) is vs
  | _, _ => σ
theorem ERel.setL {M : Mp} {φ ψ : List Addr} {H : Hp} : ∀ {is : List Nat} {ds : List D} {vs : List V} {env : En} {σ : L2.St}, ERel M φ ψ H env σ → RepL M φ ψ H ds vs → ERel M φ ψ H (setE env is ds) (setV σ is vs)
  | [], ds, vs, env, σ, r, _ => by simpa [setE, setV] using r
  | i :: is, [], vs, env, σ, r, q => by simp only [RepL] at q; subst q; simpa [setE, setV] using r
  | i :: is, d :: ds, vs, env, σ, r, q => by
    simp only [RepL] at q
    obtain ⟨x, xs, rfl, h1, h2⟩ := q
    simp only [setE, setV]
    exact ERel.setL (r.set h1) h2
theorem wipe_none {σ : L2.St} {i : Nat} : ∀ {vs : List Nat}, i ∈ vs → i < σ.length → (wipe σ vs)[i]? = some none
  | v :: vs, h, hl => by
    show ((wipe σ vs).set v none)[i]? = some none
    by_cases e : v = i
    · subst e
      rw [List.getElem?_set_self (by rw [wipe_length]; exact hl)]
    · rw [List.getElem?_set_ne e]
      rcases List.mem_cons.mp h with z | z
      · exact absurd z.symm e
      · exact wipe_none z hl
theorem wipe_set {σ : L2.St} {i : Nat} {v : Option V} {vs : List Nat} (h : i ∈ vs) : wipe (σ.set i v) vs = wipe σ vs := by
  apply List.ext_getElem?
  intro j
  by_cases hj : j ∈ vs
  · by_cases hl : j < σ.length
    · rw [wipe_none hj (by simpa using hl), wipe_none hj hl]
    · rw [List.getElem?_eq_none (by rw [wipe_length, List.length_set]; omega), List.getElem?_eq_none (by rw [wipe_length]; omega)]
  · rw [wipe_out hj, wipe_out hj, List.getElem?_set_ne (by intro e; rw [← e] at hj; exact hj h)]
theorem wipe_setV : ∀ {is : List Nat} {σ : L2.St} {xs : List V} {vs : List Nat}, (∀ i ∈ is, i ∈ vs) → wipe (setV σ is xs) vs = wipe σ vs
  | [], σ, xs, vs, _ => by simp [setV]
  | i :: is, σ, [], vs, _ => by simp [setV]
  | i :: is, σ, x :: xs, vs, h => by
    simp only [setV]
    rw [wipe_setV fun j hj => h j (List.mem_cons_of_mem _ hj), wipe_set (h i List.mem_cons_self)]
theorem wipe_wipe (σ : L2.St) (vs : List Nat) : wipe (wipe σ vs) vs = wipe σ vs := by
  apply List.ext_getElem?
  intro j
  by_cases hj : j ∈ vs
  · by_cases hl : j < σ.length
    · rw [wipe_none hj (by rw [wipe_length]; exact hl), wipe_none hj hl]
    · rw [List.getElem?_eq_none (by rw [wipe_length, wipe_length]; omega), List.getElem?_eq_none (by rw [wipe_length]; omega)]
  · rw [wipe_out hj]
def wipeE (env : En) : List Nat → En
  | [] => env
  | v :: vs => (wipeE env vs).set v none
theorem ERel.wipe {M : Mp} {φ ψ : List Addr} {H : Hp} {env : En} {σ : L2.St} (r : ERel M φ ψ H env σ) : ∀ vs : List Nat, ERel M φ ψ H (wipeE env vs) (L2.wipe σ vs)
  | [] => r
  | v :: vs => (r.wipe vs).unset v

/-- the target g stores at the slots is what T tells of the datum -/
structure Tg (M : Mp) (is : List Nat) (g : TG) (T : D → Option (List D)) : Prop where
  go : ∀ (φ ψ : List Addr) (S : Sto) (H : Hp) (d : D) (v : V) (ds : List D) (σ : L2.St) (Q : L2.St → Hp → Prop), SRel M φ ψ S H → Rep M φ ψ H d v → T d = some ds → ds.length = is.length ∧ ∃ xs, RepL M φ ψ H ds xs ∧ (Q (setV σ is xs) H → g v σ H Q)
structure Tgs (M : Mp) (n : Nat) (is : List Nat) (t : TGs) (T : List D → Option (List D)) : Prop where
  go : ∀ (φ ψ : List Addr) (S : Sto) (H : Hp) (es : List D) (vs : List V) (ds : List D) (σ : L2.St) (Q : L2.St → Hp → Prop), SRel M φ ψ S H → RepL M φ ψ H es vs → T es = some ds → es.length = n ∧ ds.length = is.length ∧ ∃ xs, RepL M φ ψ H ds xs ∧ (Q (setV σ is xs) H → t vs σ H Q)
def nameT (d : D) : Option (List D) := some [d]
def noT : List D → Option (List D)
  | [] => some []
  | _ :: _ => none
def moreT (T : D → Option (List D)) (U : List D → Option (List D)) : List D → Option (List D)
  | [] => none
  | d :: ds => match T d, U ds with
    | some a, some b => some (a ++ b)
    | _, _ => none
def tupT (U : List D → Option (List D)) : D → Option (List D)
  | .tup ds => U ds
  | _ => none
def lstT (U : List D → Option (List D)) : D → Option (List D)
  | .lst ds => U ds
  | _ => none
theorem setV_append : ∀ (is js : List Nat) (xs ys : List V) (σ : L2.St), xs.length = is.length → setV σ (is ++ js) (xs ++ ys) = setV (setV σ is xs) js ys
  | [], js, [], ys, σ, _ => by simp [setV]
  | i :: is, js, x :: xs, ys, σ, h => by
    simp only [List.cons_append, setV]
    exact setV_append is js xs ys _ (by simpa using h)
section
variable {X : Cx} {M : Mp} {pos : Pos}
theorem tg_name (i : Nat) : Tg M [i] (gName i) nameT := ⟨fun φ ψ S H d v ds σ Q s r e => by
  simp only [nameT, Option.some.injEq] at e
  subst e
  exact ⟨rfl, [v], .cons r .nil, fun q => by simpa [setV, gName] using q⟩⟩
theorem tgs_nil : Tgs M 0 [] gNil noT := ⟨fun φ ψ S H es vs ds σ Q s r e => by
  cases es with
  | nil =>
    simp only [noT, Option.some.injEq] at e
    subst e
    simp only [RepL] at r
    subst r
    exact ⟨rfl, rfl, [], .nil, fun q => ⟨rfl, by simpa [setV] using q⟩⟩
  | cons _ _ => simp [noT] at e⟩
theorem tgs_cons {n : Nat} {is js : List Nat} {g : TG} {t : TGs} {T : D → Option (List D)} {U : List D → Option (List D)} (h : Tg M is g T) (k : Tgs M n js t U) : Tgs M (n + 1) (is ++ js) (gCons g t) (moreT T U) := ⟨fun φ ψ S H es vs ds σ Q s r e => by
  cases es with
  | nil => simp [moreT] at e
  | cons d es =>
    simp only [moreT] at e
    split at e
    · rename_i a b e1 e2
      cases e
      simp only [RepL] at r
      obtain ⟨x, xs, rfl, r1, r2⟩ := r
      obtain ⟨l1, ys, q1, k1⟩ := h.go φ ψ S H d x a σ (fun σ' H' => t xs σ' H' Q) s r1 e1
      obtain ⟨l0, l2, zs, q2, k2⟩ := k.go φ ψ S H es xs b (setV σ is ys) Q s r2 e2
      refine ⟨by simp [l0], by simp [l1, l2], ys ++ zs, q1.append q2, fun q => ⟨x, xs, rfl, k1 (k2 ?_)⟩⟩
      rw [setV_append is js ys zs σ (by rw [← q1.length, l1])] at q
      exact q
    · cases e⟩
theorem tg_tup {n : Nat} {is : List Nat} {t : TGs} {U : List D → Option (List D)} (h : Tgs M n is t U) : Tg M is (gTup M.K n t) (tupT U) := ⟨fun φ ψ S H d v ds σ Q s r e => by
  cases d <;> simp only [tupT] at e
  case tup es =>
    simp only [Rep] at r
    obtain ⟨a, xs, rfl, h1, h2⟩ := r
    obtain ⟨l0, l1, ys, q1, k1⟩ := h.go φ ψ S H es xs ds σ Q s h2 e
    exact ⟨l1, ys, q1, fun q => ⟨a, xs, rfl, h1, by rw [← h2.length, l0], k1 q⟩⟩
  all_goals cases e⟩
theorem tg_lst {n : Nat} {is : List Nat} {t : TGs} {U : List D → Option (List D)} (h : Tgs M n is t U) : Tg M is (gUnl M.K n t) (lstT U) := ⟨fun φ ψ S H d v ds σ Q s r e => by
  cases d <;> simp only [lstT] at e
  case lst es =>
    simp only [Rep] at r
    obtain ⟨a, xs, rfl, _, _, h1, h2⟩ := r
    obtain ⟨l0, l1, ys, q1, k1⟩ := h.go φ ψ S H es xs ds σ Q s h2 e
    exact ⟨l1, ys, q1, fun q => ⟨a, xs, rfl, SqL.of h1, by rw [← h2.length, l0], k1 q⟩⟩
  all_goals cases e⟩
end

/-! ### what is walked: a row of data, or an object that is changed -/
inductive Wk where
  | seq (ds : List D)
  | cell (n : Nat)
def Wk.at : Wk → Sto → Nat → Option (Option D)
  | .seq ds, _, i => some ds[i]?
  | .cell n, S, i => match S[n]? with
    | some (.lst ds) => some ds[i]?
    | none => none
def Wk.cnt : Wk → Sto → Nat
  | .seq ds, _ => ds.length
  | .cell n, S => match S[n]? with
    | some (.lst ds) => ds.length
    | none => 0
theorem Rep.freshs {M : Mp} {φ ψ : List Addr} {H : Hp} : ∀ {χ : List Addr}, (∀ a ∈ χ, H a = none) → ∀ {d : D} {v : V}, Rep M φ ψ H d v → Rep M φ (χ ++ ψ) H d v
  | [], _, d, v, r => r
  | a :: χ, h, d, v, r => Rep.fresh (h a List.mem_cons_self) _ _ (Rep.freshs (χ := χ) (fun b hb => h b (List.mem_cons_of_mem _ hb)) r)
theorem RepL.freshs {M : Mp} {φ ψ : List Addr} {H : Hp} : ∀ {χ : List Addr}, (∀ a ∈ χ, H a = none) → ∀ {d : List D} {v : List V}, RepL M φ ψ H d v → RepL M φ (χ ++ ψ) H d v
  | [], _, d, v, r => r
  | a :: χ, h, d, v, r => RepL.fresh (h a List.mem_cons_self) _ _ (RepL.freshs (χ := χ) (fun b hb => h b (List.mem_cons_of_mem _ hb)) r)
def WalksD (M : Mp) (ψ : List Addr) (w : Wk) (J : It) (φ0 : List Addr) (H0 : Hp) : Prop := ∀ (χ : List Addr) (φ : List Addr) (H : Hp) (S : Sto), (∀ a ∈ χ, H0 a = none) → Ext φ0 H0 φ H → SRel M φ (χ ++ ψ) S H → ∀ i r, w.at S i = some r →
  match r with
  | some d => J.go i H ∧ ∀ x H', J.yld i H x H' → Ext φ H φ H' ∧ SRel M φ (χ ++ ψ) S H' ∧ Rep M φ (χ ++ ψ) H' d x
  | none => J.stop i H
def rpW (M : Mp) (ψ : List Addr) : Rp M ψ Wk It := ⟨fun _ φ' S H' w J => SRel M φ' ψ S H' ∧ WalksD M ψ w J φ' H', fun _ h => h⟩
def DI (X : Cx) (M : Mp) (W : WX) (tg iter : Expr) (m : En → Sto → R Wk) : Prop := PI X tg iter (rd M (rpW M) W m)
/-- at a stands what w tells -/
def Lk (Sq : Hp → Addr → List V → Prop) (M : Mp) (ψ : List Addr) (w : Wk) (a : Addr) (φ0 : List Addr) (H0 : Hp) : Prop := ∀ (χ : List Addr) (φ : List Addr) (H : Hp) (S : Sto), (∀ a ∈ χ, H0 a = none) → Ext φ0 H0 φ H → SRel M φ (χ ++ ψ) S H → ∀ i r, w.at S i = some r →
  ∃ xs, Sq H a xs ∧ match r with
    | some d => ∃ x, xs[i]? = some x ∧ Rep M φ (χ ++ ψ) H d x
    | none => xs.length ≤ i
theorem lk_seq {Sq : Hp → Addr → List V → Prop} {M : Mp} {φ ψ : List Addr} {H : Hp} {a : Addr} {ds : List D} {xs : List V} (hs : ∀ φ' H', Ext φ H φ' H' → Sq H' a xs) (r : RepL M φ ψ H ds xs) : Lk Sq M ψ (.seq ds) a φ H := fun χ φ' H' S hχ e s i q hq => by
  simp only [Wk.at, Option.some.injEq] at hq
  refine ⟨xs, hs φ' H' e, ?_⟩
  subst hq
  cases hd : ds[i]? with
  | some d =>
    obtain ⟨v, hv, rv⟩ := RepL.get (RepL.freshs hχ r) hd
    exact ⟨v, hv, Rep.mono s.ok e _ _ rv⟩
  | none =>
    have := List.getElem?_eq_none_iff.mp hd
    rw [r.length] at this
    exact this
theorem lk_cell {K : PySem.W.Frag} {M : Mp} {φ ψ : List Addr} {H : Hp} {a : Addr} {n : Nat} (hn : φ[n]? = some a) : Lk (SqL K) M ψ (.cell n) a φ H := fun χ φ' H' S hχ e s i q hq => by
  simp only [Wk.at] at hq
  split at hq
  · rename_i ds hS
    cases hq
    obtain ⟨xs, h1, h2⟩ := s.obj n a _ (e.get hn) hS
    refine ⟨xs, SqL.of h1, ?_⟩
    cases hd : ds[i]? with
    | some d => exact h2.get hd
    | none =>
      have := List.getElem?_eq_none_iff.mp hd
      rw [h2.length] at this
      exact this
  · cases hq
theorem Lk.walksL {K : PySem.W.Frag} {M : Mp} {φ ψ : List Addr} {H : Hp} {a : Addr} {w : Wk} (h : Lk (SqL K) M ψ w a φ H) : WalksD M ψ w (Itl K a) φ H := fun χ φ' H' S hχ e s i r hr => by
  obtain ⟨xs, q, k⟩ := h χ φ' H' S hχ e s i r hr
  cases r with
  | none => exact ⟨xs, q, k⟩
  | some d =>
    obtain ⟨x, hx, rx⟩ := k
    refine ⟨⟨xs, x, q, hx⟩, fun y H2 ⟨e2, hy⟩ => ?_⟩
    subst e2
    have z := hy xs q
    rw [hx] at z
    cases z
    exact ⟨.refl _ _, s, rx⟩
theorem Lk.walksT {K : PySem.W.Frag} {M : Mp} {φ ψ : List Addr} {H : Hp} {a : Addr} {w : Wk} (h : Lk (SqT K) M ψ w a φ H) : WalksD M ψ w (Itt K a) φ H := fun χ φ' H' S hχ e s i r hr => by
  obtain ⟨xs, q, k⟩ := h χ φ' H' S hχ e s i r hr
  cases r with
  | none => exact ⟨xs, q, k⟩
  | some d =>
    obtain ⟨x, hx, rx⟩ := k
    refine ⟨⟨xs, x, q, hx⟩, fun y H2 ⟨e2, hy⟩ => ?_⟩
    subst e2
    have z := hy xs q
    rw [hx] at z
    cases z
    exact ⟨.refl _ _, s, rx⟩
/-- two rows side by side -/
def zipD : List D → List D → List D
  | a :: as, b :: bs => .tup [a, b] :: zipD as bs
  | _, _ => []
theorem zipD_some : ∀ {as bs : List D} {i : Nat} {d : D}, (zipD as bs)[i]? = some d → ∃ a b, as[i]? = some a ∧ bs[i]? = some b ∧ d = .tup [a, b]
  | [], bs, i, d, h => by simp [zipD] at h
  | a :: as, [], i, d, h => by simp [zipD] at h
  | a :: as, b :: bs, 0, d, h => by simp [zipD] at h; exact ⟨a, b, rfl, rfl, h.symm⟩
  | a :: as, b :: bs, i + 1, d, h => by simp [zipD] at h; simpa using zipD_some h
theorem zipD_none : ∀ {as bs : List D} {i : Nat}, (zipD as bs)[i]? = none → as[i]? = none ∨ bs[i]? = none
  | [], bs, i, h => by simp
  | a :: as, [], i, h => by simp
  | a :: as, b :: bs, 0, h => by simp [zipD] at h
  | a :: as, b :: bs, i + 1, h => by simp only [zipD, List.getElem?_cons_succ] at h; simpa using zipD_none h
theorem Lk.zip {Sq : Hp → Addr → List V → Prop} {M : Mp} {φ ψ : List Addr} {H : Hp} {a b : Addr} {ds es : List D} (h : Lk Sq M ψ (.seq ds) a φ H) (k : Lk Sq M ψ (.seq es) b φ H) {J : It}
    (hg : ∀ i H, (∃ (xs ys : List V) (x y : V), Sq H a xs ∧ Sq H b ys ∧ xs[i]? = some x ∧ ys[i]? = some y) → J.go i H)
    (hy : ∀ i H v H', J.yld i H v H' → ∃ T x y, v = .ref T ∧ H T = none ∧ H' = upd H T (.tup [x, y]) ∧ (∀ xs, Sq H a xs → xs[i]? = some x) ∧ ∀ ys, Sq H b ys → ys[i]? = some y)
    (hs : ∀ i H, (∃ xs ys : List V, Sq H a xs ∧ Sq H b ys ∧ (xs.length ≤ i ∨ ys.length ≤ i)) → J.stop i H) : WalksD M ψ (.seq (zipD ds es)) J φ H := fun χ φ' H' S hχ e s i r hr => by
  simp only [Wk.at, Option.some.injEq] at hr
  subst hr
  have h' := h χ φ' H' S hχ e s i _ rfl
  have k' := k χ φ' H' S hχ e s i _ rfl
  obtain ⟨xs, q1, k1⟩ := h'
  obtain ⟨ys, q2, k2⟩ := k'
  cases hd : (zipD ds es)[i]? with
  | none =>
    refine hs i H' ⟨xs, ys, q1, q2, ?_⟩
    rcases zipD_none hd with z | z
    · rw [z] at k1; exact .inl k1
    · rw [z] at k2; exact .inr k2
  | some d =>
    obtain ⟨u, v, e1, e2, rfl⟩ := zipD_some hd
    rw [e1] at k1
    rw [e2] at k2
    obtain ⟨x, hx, rx⟩ := k1
    obtain ⟨y, hy', ry⟩ := k2
    refine ⟨hg i H' ⟨xs, ys, x, y, q1, q2, hx, hy'⟩, fun z H2 hz => ?_⟩
    obtain ⟨T, x', y', rfl, hT, rfl, f1, f2⟩ := hy i H' z H2 hz
    have g1 := f1 xs q1
    have g2 := f2 ys q2
    rw [hx] at g1
    rw [hy'] at g2
    cases g1; cases g2
    obtain ⟨l1, l2⟩ := s.laid (o := .tup [x, y]) hT
    exact ⟨l1, l2, Rep.tupNew s (.cons rx (.cons ry .nil)) hT⟩
/-- numbered from i on -/
def enuD : Nat → List D → List D
  | _, [] => []
  | i, d :: ds => .tup [.int (i : Nat), d] :: enuD (i + 1) ds
theorem enuD_get : ∀ {ds : List D} {k i : Nat}, (enuD k ds)[i]? = ds[i]?.map fun d => .tup [.int ((k + i : Nat) : Nat), d]
  | [], k, i => by simp [enuD]
  | d :: ds, k, 0 => by simp [enuD]
  | d :: ds, k, i + 1 => by
    simp only [enuD, List.getElem?_cons_succ]
    rw [enuD_get]
    congr 1
    funext d
    congr 3
    push_cast
    omega
theorem Lk.enum {K : PySem.W.Frag} {M : Mp} {φ ψ : List Addr} {H : Hp} {a : Addr} {ds : List D} (h : Lk (SqL K) M ψ (.seq ds) a φ H) : WalksD M ψ (.seq (enuD 0 ds)) (Ite K a) φ H := fun χ φ' H' S hχ e s i r hr => by
  simp only [Wk.at, Option.some.injEq] at hr
  subst hr
  obtain ⟨xs, q, k⟩ := h χ φ' H' S hχ e s i _ rfl
  rw [enuD_get]
  cases hd : ds[i]? with
  | none => rw [hd] at k; exact ⟨xs, q, k⟩
  | some d =>
    rw [hd] at k
    obtain ⟨x, hx, rx⟩ := k
    refine ⟨⟨xs, x, q, hx⟩, fun z H2 hz => ?_⟩
    obtain ⟨T, x', rfl, hT, rfl, f1⟩ := hz
    have g1 := f1 xs q
    rw [hx] at g1
    cases g1
    obtain ⟨l1, l2⟩ := s.laid (o := .tup [.int ((i : Nat) : Int), x]) hT
    refine ⟨l1, l2, Rep.tupNew s (.cons ?_ (.cons rx .nil)) hT⟩
    simp only [Rep, Nat.zero_add]

section
variable {X : Cx} {M : Mp} {W : WX} {tg e : Expr} {pos p : Pos} {m : En → Sto → R D} {ms : En → Sto → R (List D)}
theorem pi_imp {t t' : TI} (h : PI X tg e t) (k : ∀ σ H R, t' σ H R → t σ H R) : PI X tg e t' := ⟨fun pins s σ H R I q => h.run pins s σ H R I (k σ H R q)⟩
theorem pi_or {t t' : TI} (h : PI X tg e t) (h' : PI X tg e t') : PI X tg e (fun σ H R => t σ H R ∨ t' σ H R) := ⟨fun pins s σ H R I q => q.elim (h.run pins s σ H R I) (h'.run pins s σ H R I)⟩
/-- a list, a tuple, a text by its signs -/
def signs (z : Str) : List D := z.cps.toList.map fun c => .str ⟨#[c]⟩
def walkO (S : Sto) : D → R Wk
  | .tup ds => .ok (.seq ds) S
  | .lst ds => .ok (.seq ds) S
  | .scr ds => .ok (.seq ds) S
  | .ref n => .ok (.cell n) S
  | .str z => .ok (.seq (signs z)) S
  | _ => .stuck
def seqI (m : En → Sto → R D) : En → Sto → R Wk := fun env S => (m env S).bind fun d S1 => walkO S1 d
theorem walks_str {φ ψ : List Addr} {H : Hp} {z : Str} : WalksD M ψ (.seq (signs z)) (Its z) φ H := fun χ φ' H' S hχ e s i r hr => by
  simp only [Wk.at, Option.some.injEq] at hr
  subst hr
  cases hd : (signs z)[i]? with
  | none =>
    show z.cps.size ≤ i
    have := List.getElem?_eq_none_iff.mp hd
    simpa [signs] using this
  | some d =>
    unfold signs at hd
    rw [List.getElem?_map] at hd
    cases hc : z.cps.toList[i]? with
    | none => rw [hc] at hd; cases hd
    | some c =>
      rw [hc] at hd
      have hd' : D.str ⟨#[c]⟩ = d := Option.some.inj hd
      subst hd'
      have hi : i < z.cps.size := by
        have := (List.getElem?_eq_some_iff.mp hc).1
        simpa using this
      refine ⟨hi, fun x H2 ⟨e2, c', hc', y⟩ => ?_⟩
      subst e2
      rw [← Array.getElem?_toList, hc] at hc'
      cases hc'
      exact ⟨.refl _ _, s, by simp only [Rep]; exact y⟩
theorem di_seq (h : DE X M W e m) (hK : X.K = M.K := by rfl) : DI X M W tg e (seqI m) := by
  refine pi_imp (pi_or (pi_tup h) (pi_or (pi_list h) (pi_str h))) fun σ H J q => ?_
  obtain ⟨env, S, φ, ψ, er, sr, p⟩ := q
  unfold seqI at p
  cases hm : m env S with
  | stuck => rw [hm] at p; exact p.elim
  | err x S1 =>
    rw [hm] at p
    refine .inl ⟨env, S, φ, ψ, er, sr, ?_⟩
    rw [hm]
    exact p
  | ok d S1 =>
    rw [hm] at p
    simp only [DL.R.bind_ok] at p
    cases d <;> simp only [walkO] at p
    case tup ds =>
      refine .inl ⟨env, S, φ, ψ, er, sr, ?_⟩
      rw [hm]
      rintro φ1 H1 v ex ⟨s1, r1⟩
      simp only [Rep] at r1
      obtain ⟨a, xs, rfl, h1, h2⟩ := r1
      exact ⟨a, rfl, ⟨xs, by rw [hK]; exact h1⟩, p φ1 H1 _ ex ⟨s1, by rw [hK]; exact Lk.walksT (lk_seq (fun _ _ e => e.sqT h1) h2)⟩⟩
    case lst ds =>
      refine .inr (.inl ⟨env, S, φ, ψ, er, sr, ?_⟩)
      rw [hm]
      rintro φ1 H1 v ex ⟨s1, r1⟩
      simp only [Rep] at r1
      obtain ⟨a, xs, rfl, h0, _, h1, h2⟩ := r1
      exact ⟨a, rfl, ⟨xs, SqL.of h1⟩, p φ1 H1 _ ex ⟨s1, Lk.walksL (lk_seq (fun φ' H' e => SqL.of (e.keep _ _ h1 h0 rfl)) h2)⟩⟩
    case scr ds =>
      refine .inr (.inl ⟨env, S, φ, ψ, er, sr, ?_⟩)
      rw [hm]
      rintro φ1 H1 v ex ⟨s1, r1⟩
      simp only [Rep] at r1
      obtain ⟨a, xs, rfl, h1, h2⟩ := r1
      exact ⟨a, rfl, ⟨xs, by rw [hK]; exact h1.sq⟩, p φ1 H1 _ ex ⟨s1, by rw [hK]; exact Lk.walksL (lk_seq (fun φ' H' e => (e.scr h1).sq) h2)⟩⟩
    case ref n =>
      refine .inr (.inl ⟨env, S, φ, ψ, er, sr, ?_⟩)
      rw [hm]
      rintro φ1 H1 v ex ⟨s1, r1⟩
      simp only [Rep] at r1
      obtain ⟨a, rfl, h1⟩ := r1
      have ha : a ∈ φ1 := List.mem_of_getElem? h1
      obtain ⟨n', o, e1, e2, ro⟩ := s1.mem ha
      cases o with
      | lst ds' =>
        obtain ⟨xs, h3, h4⟩ := ro
        exact ⟨a, rfl, ⟨xs, SqL.of h3⟩, p φ1 H1 _ ex ⟨s1, Lk.walksL (lk_cell h1)⟩⟩
    case str z =>
      refine .inr (.inr ⟨env, S, φ, ψ, er, sr, ?_⟩)
      rw [hm]
      rintro φ1 H1 v ex ⟨s1, r1⟩
      simp only [Rep] at r1
      exact ⟨_, r1, p φ1 H1 _ ex ⟨s1, walks_str⟩⟩
    all_goals exact p.elim
/-- ranges -/
def upto (lo : Int) : Nat → List D
  | 0 => []
  | n + 1 => .int lo :: upto (lo + 1) n
theorem upto_len : ∀ (n : Nat) (lo : Int), (upto lo n).length = n
  | 0, _ => rfl
  | n + 1, lo => by simp [upto, upto_len n]
theorem upto_get : ∀ (n : Nat) (lo : Int) (i : Nat), i < n → (upto lo n)[i]? = some (.int (lo + i))
  | 0, _, _, h => by omega
  | n + 1, lo, 0, _ => by simp [upto]
  | n + 1, lo, i + 1, h => by
    simp only [upto, List.getElem?_cons_succ]
    rw [upto_get n (lo + 1) i (by omega)]
    congr 2
    push_cast
    omega
/-- lo, lo + c, .. -/
def byC (lo c : Int) : Nat → List D
  | 0 => []
  | n + 1 => .int lo :: byC (lo + c) c n
theorem byC_len : ∀ (n : Nat) (lo c : Int), (byC lo c n).length = n
  | 0, _, _ => rfl
  | n + 1, lo, c => by simp [byC, byC_len n]
theorem byC_get : ∀ (n : Nat) (lo c : Int) (i : Nat), i < n → (byC lo c n)[i]? = some (.int (lo + (i : Nat) * c))
  | 0, _, _, _, h => by omega
  | n + 1, lo, c, 0, _ => by simp [byC]
  | n + 1, lo, c, i + 1, h => by
    simp only [byC, List.getElem?_cons_succ]
    rw [byC_get n (lo + c) c i (by omega)]
    congr 2
    push_cast
    rw [Int.add_mul]
    omega
def fits62 (i : Int) : Bool := decide (-(2 ^ 62) ≤ i ∧ i < 2 ^ 62)
def rngI1 (S : Sto) : List D → R Wk
  | [.int j] => if fits62 j = true then .ok (.seq (upto 0 j.toNat)) S else .stuck
  | _ => .stuck
def rngI2 (S : Sto) : List D → R Wk
  | [.int i, .int j] => if (fits62 i && fits62 j) = true then .ok (.seq (upto i (j - i).toNat)) S else .stuck
  | _ => .stuck
/-- range(i, j, c): how many turns is the machine's own reckoning -/
def rngI3 (S : Sto) : List D → R Wk
  | [.int i, .int j, .int c] => if (decide (c ≠ 0) && decide (c.natAbs < 1073741824) && Builtin.Range.small i j c && decide ((((Builtin.Range.rangeSize i j c).toNat : Nat) : Int) = Builtin.Range.rangeSize i j c)) = true then .ok (.seq (byC i c (Builtin.Range.rangeSize i j c).toNat)) S else .stuck
  | _ => .stuck
theorem walks_rng {φ ψ : List Addr} {H : Hp} {lo : Int} {n : Nat} : WalksD M ψ (.seq (upto lo n)) (Itr lo n) φ H := fun χ φ' H' S hχ e s i r hr => by
  simp only [Wk.at, Option.some.injEq] at hr
  subst hr
  by_cases hi : i < n
  · rw [upto_get n lo i hi]
    refine ⟨hi, fun x H2 ⟨e2, y⟩ => ?_⟩
    subst e2
    exact ⟨.refl _ _, s, by simp only [Rep]; exact y⟩
  · rw [List.getElem?_eq_none (by rw [upto_len]; omega)]
    show n ≤ i
    omega
theorem walks_rngC {φ ψ : List Addr} {H : Hp} {lo c : Int} {n : Nat} : WalksD M ψ (.seq (byC lo c n)) (Itc lo c n) φ H := fun χ φ' H' S hχ e s i r hr => by
  simp only [Wk.at, Option.some.injEq] at hr
  subst hr
  by_cases hi : i < n
  · rw [byC_get n lo c i hi]
    refine ⟨hi, fun x H2 ⟨e2, y⟩ => ?_⟩
    subst e2
    exact ⟨.refl _ _, s, by simp only [Rep]; exact y⟩
  · rw [List.getElem?_eq_none (by rw [byC_len]; omega)]
    show n ≤ i
    omega
def callI (f : Sto → List D → R Wk) (ms : En → Sto → R (List D)) : En → Sto → R Wk := fun env S => (ms env S).bind fun ds S1 => f S1 ds
theorem di_rng1 {a : Expr} (ha : DA X M W [a] ms) (hm : X.mg "range" = none) (hg : Gl X "range" := by rfl) (hs : starEach [a] X.env = [(false, eval a X.env)] := by rfl) : DI X M W tg (.Call (.Name "range" p) [a] [] pos) (callI rngI1 ms) := by
  refine pi_imp (pi_range1 hg hm ha hs) fun σ H J h => ?_
  refine rd_bindA h _ fun env φ1 ψ ds vs S1 H1 er sr r q => ?_
  unfold rngI1 at q
  split at q
  · split at q
    · rename_i j hz
      obtain ⟨v, ev, r1⟩ := r.one
      simp only [Rep] at r1; subst r1; subst ev
      have hz := of_decide_eq_true hz
      exact ⟨j, rfl, hz.1, hz.2, q φ1 H1 _ (.refl _ _) ⟨sr, walks_rng⟩⟩
    · exact q.elim
  · exact q.elim
theorem di_rng2 {a b : Expr} (ha : DA X M W [a, b] ms) (hm : X.mg "range" = none) (hg : Gl X "range" := by rfl) (hs : starEach [a, b] X.env = [(false, eval a X.env), (false, eval b X.env)] := by rfl) (hs2 : starEach [b] X.env = [(false, eval b X.env)] := by rfl) : DI X M W tg (.Call (.Name "range" p) [a, b] [] pos) (callI rngI2 ms) := by
  refine pi_imp (pi_range2 hg hm ha hs hs2) fun σ H J h => ?_
  refine rd_bindA h _ fun env φ1 ψ ds vs S1 H1 er sr r q => ?_
  unfold rngI2 at q
  split at q
  · split at q
    · rename_i i j hz
      obtain ⟨v, w, rfl, r1, r2⟩ := r.two
      simp only [Rep] at r1 r2; subst r1; subst r2
      simp only [Bool.and_eq_true] at hz
      have h1 := of_decide_eq_true hz.1
      have h2 := of_decide_eq_true hz.2
      exact ⟨i, j, rfl, ⟨h1.1, h1.2, h2.1, h2.2⟩, q φ1 H1 _ (.refl _ _) ⟨sr, walks_rng⟩⟩
    · exact q.elim
  · exact q.elim
theorem di_rng3 {a b c : Expr} (ha : DA X M W [a, b, c] ms) (hm : X.mg "range" = none) (hg : Gl X "range" := by rfl) (hs : starEach [a, b, c] X.env = (false, eval a X.env) :: starEach [b, c] X.env := by rfl) (hpl : (backTo pos (starEach [b, c] X.env)).any (·.1) = false := by rfl) :
    DI X M W tg (.Call (.Name "range" p) [a, b, c] [] pos) (callI rngI3 ms) := by
  refine pi_imp (pi_range3 hg hm ha hs hpl) fun σ H J h => ?_
  refine rd_bindA h _ fun env φ1 ψ ds vs S1 H1 er sr r q => ?_
  unfold rngI3 at q
  split at q
  · split at q
    · rename_i i j c hz
      simp only [RepL] at r
      obtain ⟨x1, l1, rfl, r1, x2, l2, rfl, r2, x3, l3, rfl, r3, rfl⟩ := r
      simp only [Rep] at r1 r2 r3; subst r1; subst r2; subst r3
      simp only [Bool.and_eq_true, decide_eq_true_eq] at hz
      exact ⟨i, j, c, _, rfl, ⟨hz.1.1.1, hz.1.1.2, hz.1.2, hz.2.symm⟩, q φ1 H1 _ (.refl _ _) ⟨sr, walks_rngC⟩⟩
    · exact q.elim
  · exact q.elim
/-- zip of two lists, of two tuples -/
def zipI (S : Sto) : List D → R Wk
  | [.tup a, .tup b] => .ok (.seq (zipD a b)) S
  | [.lst a, .lst b] => .ok (.seq (zipD a b)) S
  | _ => .stuck
def enuI (S : Sto) : List D → R Wk
  | [.lst a] => .ok (.seq (enuD 0 a)) S
  | _ => .stuck
theorem di_zip {e2 : Expr} {elts : List Expr} {kk : Nat} {tpos : Pos} (ha : DA X M W [e, e2] ms) (hm : X.mg "zip" = none) (hg : Gl X "zip" := by rfl) (hK : X.K = M.K := by rfl)
    (hs : starEach [e, e2] X.env = (false, eval e X.env) :: starEach [e2] X.env := by rfl) (hpl : (backTo pos (starEach [e2] X.env)).any (·.1) = false := by rfl) : DI X M W (.Tuple elts kk tpos) (.Call (.Name "zip" p) [e, e2] [] pos) (callI zipI ms) := by
  refine pi_imp (RZ.pi_zipA hg hm ha hs hpl) fun σ H J h => ?_
  refine rd_bindA h _ fun env φ1 ψ ds vs S1 H1 er sr r q => ?_
  unfold zipI at q
  split at q
  · obtain ⟨v, w, ev, r1, r2⟩ := r.two
    simp only [Rep] at r1 r2
    obtain ⟨a, xs, rfl, h1, h2⟩ := r1
    obtain ⟨b, ys, rfl, h3, h4⟩ := r2
    refine ⟨a, b, xs, ys, ev, .inr ⟨by rw [hK]; exact h1, by rw [hK]; exact h3, q φ1 H1 _ (.refl _ _) ⟨sr, ?_⟩⟩⟩
    rw [hK]
    exact Lk.zip (lk_seq (fun _ _ e => e.sqT h1) h2) (lk_seq (fun _ _ e => e.sqT h3) h4) (fun _ _ h => h) (fun _ _ _ _ h => h) (fun _ _ h => h)
  · obtain ⟨v, w, ev, r1, r2⟩ := r.two
    simp only [Rep] at r1 r2
    obtain ⟨a, xs, rfl, g1, _, h1, h2⟩ := r1
    obtain ⟨b, ys, rfl, g2, _, h3, h4⟩ := r2
    refine ⟨a, b, xs, ys, ev, .inl ⟨SqL.of h1, SqL.of h3, q φ1 H1 _ (.refl _ _) ⟨sr, ?_⟩⟩⟩
    exact Lk.zip (lk_seq (fun _ _ e => SqL.of (e.keep _ _ h1 g1 rfl)) h2) (lk_seq (fun _ _ e => SqL.of (e.keep _ _ h3 g2 rfl)) h4) (fun _ _ h => h) (fun _ _ _ _ h => h) (fun _ _ h => h)
  · exact q.elim
theorem di_enu {elts : List Expr} {kk : Nat} {tpos : Pos} (ha : DA X M W [e] ms) (hm : X.mg "enumerate" = none) (hg : Gl X "enumerate" := by rfl)
    (hs : starEach [e] X.env = [(false, eval e X.env)] := by rfl) : DI X M W (.Tuple elts kk tpos) (.Call (.Name "enumerate" p) [e] [] pos) (callI enuI ms) := by
  refine pi_imp (pi_enum hg hm ha hs) fun σ H J h => ?_
  refine rd_bindA h _ fun env φ1 ψ ds vs S1 H1 er sr r q => ?_
  unfold enuI at q
  split at q
  · obtain ⟨v, ev, r1⟩ := r.one
    simp only [Rep] at r1
    obtain ⟨a, xs, rfl, g1, _, h1, h2⟩ := r1
    refine ⟨a, xs, ev, SqL.of h1, q φ1 H1 _ (.refl _ _) ⟨sr, ?_⟩⟩
    exact Lk.enum (lk_seq (fun _ _ e => SqL.of (e.keep _ _ h1 g1 rfl)) h2)
  · exact q.elim

/-! ### comprehensions -/
/-- a reckoning that may not raise -/
def R.go {α β : Type} (r : R α) (f : α → Sto → R β) : R β := match r with
  | .ok a S => f a S
  | _ => .stuck
def W0 : WX := fun _ _ _ _ => False
/-- the turns: i done, at most k to come -/
def lcK (w : Wk) (env0 : En) (is : List Nat) (T : D → Option (List D)) (mt : En → Sto → R Bool) (me : En → Sto → R D) : Nat → Nat → List D → Sto → R (List D)
  | k, i, acc, S => match w.at S i with
    | none => .stuck
    | some none => .ok acc S
    | some (some d) => match k with
      | 0 => .stuck
      | k + 1 => match T d with
        | none => .stuck
        | some xs => (mt (setE env0 is xs) S).go fun b S1 => if b = true then (me (setE env0 is xs) S1).go fun y S2 => if acc.length < sizeLine then lcK w env0 is T mt me k (i + 1) (acc ++ [y]) S2 else .stuck else lcK w env0 is T mt me k (i + 1) acc S1
def lcM (mi : En → Sto → R Wk) (own is : List Nat) (T : D → Option (List D)) (mt : En → Sto → R Bool) (me : En → Sto → R D) : En → Sto → R (List D) := fun env S => (mi env S).bind fun w S1 => lcK w (wipeE env own) is T mt me (w.cnt S1) 0 [] S1
def tYesM : En → Sto → R Bool := fun _ S => .ok true S
def DTs (X : Cx) (M : Mp) (W : WX) (es : List Expr) (m : En → Sto → R Bool) : Prop := PTs X es (rdB M W m)
theorem pts_imp {es : List Expr} {t t' : TT} (h : PTs X es t) (k : ∀ σ H Q, t' σ H Q → t σ H Q) : PTs X es t' := ⟨fun pins s σ H Q I q => h.run pins s σ H Q I (k σ H Q q)⟩
theorem dts_nil : DTs X M W [] tYesM := pts_imp pts_nil fun σ H Q ⟨env, S, φ, ψ, er, sr, p⟩ => p.retB sr
theorem dts_one {c : Expr} {m : En → Sto → R Bool} (h : DT X M W c m) : DTs X M W [c] m := pts_one h
def Ext.laidNew {φ : List Addr} {H : Hp} {a : Addr} {o : HO} (h : H a = none) : Ext φ H φ (upd H a o) := by
  have ne : ∀ b, H b ≠ none → b ≠ a := fun b hb z => hb (z ▸ h)
  refine ⟨⟨[], by simp, by simp⟩, fun b u e _ _ => ?_, fun b u e _ => ?_, fun b hb => ?_⟩
  · rw [upd_ne (ne b (by rw [e]; simp))]; exact e
  · rw [upd_ne (ne b (by rw [e]; simp))]; exact e
  · rw [upd_ne (ne b hb)]; exact hb
theorem SRel.add {φ ψ : List Addr} {S : Sto} {H : Hp} (s : SRel M φ ψ S H) {a : Addr} {o : HO} (h : H a = none) (ho : notTbl o = true ∧ notCell o = true := by exact ⟨rfl, rfl⟩) : SRel M φ (a :: ψ) S (upd H a o) := by
  obtain ⟨e, s'⟩ := s.laid (o := o) h
  refine ⟨s'.len, s'.nd, fun b hb hm => ?_, fun b hb => ?_, fun n b u h1 h2 => ?_, s'.tabs, s'.ok⟩
  · rcases List.mem_cons.mp hm with z | z
    · exact (s.notIn h).1 (by rw [← z]; exact hb)
    · exact s'.dis b hb z
  · rcases List.mem_cons.mp hb with z | z
    · rw [z]; exact ⟨o, upd_same, ho⟩
    · exact s'.av b z
  · exact ((s.obj n b u h1 h2).fresh h).mono s.ok e fun v hv => by rw [upd_ne (ne_of_none hv h)]; exact hv
mutual
/-- objects that we avoid may change -/
theorem Rep.keepOut {φ ψ : List Addr} {H H' : Hp} (ok : M.Ok) (k : ∀ b o, H b = some o → b ∉ φ → b ∉ ψ → notTbl o = true → H' b = some o) (i : ∀ b o, H b = some o → Imm o = true → H' b = some o) : ∀ (d : D) (v : V), Rep M φ ψ H d v → Rep M φ ψ H' d v
  | .non, v, h => by simpa only [Rep] using h
  | .bl b, v, h => by simpa only [Rep] using h
  | .int i, v, h => by simpa only [Rep] using h
  | .str s, v, h => by simpa only [Rep] using h
  | .tup ds, v, h => by
    simp only [Rep] at h ⊢
    obtain ⟨a, xs, rfl, h1, h2⟩ := h
    refine ⟨a, xs, rfl, ?_, RepL.keepOut ok k i ds xs h2⟩
    rcases h1 with (r | ⟨o, r⟩) | r
    · exact .inl (.inl (i a _ r rfl))
    · exact .inl (.inr ⟨o, i a _ r rfl⟩)
    · exact .inr r
  | .lst ds, v, h => by
    simp only [Rep] at h ⊢
    obtain ⟨a, xs, rfl, h1, h2, h3, h4⟩ := h
    exact ⟨a, xs, rfl, h1, h2, k _ _ h3 h1 h2 rfl, RepL.keepOut ok k i ds xs h4⟩
  | .scr ds, v, h => by
    simp only [Rep] at h ⊢
    obtain ⟨a, xs, rfl, h1, h2⟩ := h
    refine ⟨a, xs, rfl, ?_, RepL.keepOut ok k i ds xs h2⟩
    rcases h1 with ⟨o, r⟩ | r
    · exact .inl ⟨o, i a _ r rfl⟩
    · exact .inr r
  | .dic ks ds, v, h => by
    simp only [Rep] at h ⊢
    obtain ⟨a, xs, rfl, h1, h2, h3, h5, h4⟩ := h
    exact ⟨a, xs, rfl, h1, h2, k _ _ h3 h1 h2 rfl, h5, RepL.keepOut ok k i ds xs h4⟩
  | .exc c w, v, h => by
    simp only [Rep] at h ⊢
    obtain ⟨a, d, x, rfl, h1, h2, h3⟩ := h
    exact ⟨a, d, x, rfl, i _ _ h1 rfl, i _ _ h2 rfl, Rep.keepOut ok k i w x h3⟩
  | .fn n, v, h => by simpa only [Rep] using h
  | .clo n ds, v, h => by
    simp only [Rep] at h ⊢
    obtain ⟨f, xs, rfl, h1, h2⟩ := h
    exact ⟨f, xs, rfl, ok.clo n H H' f xs h1 i, RepL.keepOut ok k i ds xs h2⟩
  | .ref n, v, h => by
    simp only [Rep] at h ⊢
    exact h
theorem RepL.keepOut {φ ψ : List Addr} {H H' : Hp} (ok : M.Ok) (k : ∀ b o, H b = some o → b ∉ φ → b ∉ ψ → notTbl o = true → H' b = some o) (i : ∀ b o, H b = some o → Imm o = true → H' b = some o) : ∀ (ds : List D) (vs : List V), RepL M φ ψ H ds vs → RepL M φ ψ H' ds vs
  | [], vs, h => by simpa only [RepL] using h
  | d :: ds, vs, h => by
    simp only [RepL] at h ⊢
    obtain ⟨x, xs, rfl, h1, h2⟩ := h
    exact ⟨x, xs, rfl, Rep.keepOut ok k i d x h1, RepL.keepOut ok k i ds xs h2⟩
end
/-- an object at a that only we know is changed -/
theorem mine_keep {φ ψ : List Addr} {H : Hp} {a : Addr} {xs ys : List V} (hm : a ∈ ψ) (h : H a = some (.lst xs)) : (∀ b o, H b = some o → b ∉ φ → b ∉ ψ → notTbl o = true → upd H a (.lst ys) b = some o) ∧ (∀ b o, H b = some o → Imm o = true → upd H a (.lst ys) b = some o) := by
  refine ⟨fun b o e _ h2 _ => ?_, fun b o e hi => ?_⟩
  · rw [upd_ne (fun z => h2 (by rw [z]; exact hm))]; exact e
  · rw [upd_ne (fun z => by rw [z, h] at e; cases e; cases hi)]; exact e
theorem SRel.mine {φ ψ : List Addr} {S : Sto} {H : Hp} {a : Addr} (s : SRel M φ ψ S H) {xs ys : List V} (hm : a ∈ ψ) (h : H a = some (.lst xs)) : SRel M φ ψ S (upd H a (.lst ys)) := by
  obtain ⟨k, i⟩ := mine_keep (φ := φ) (ys := ys) hm h
  have nd : ∀ b ∈ ψ, ∃ u, upd H a (.lst ys) b = some u ∧ notTbl u = true ∧ notCell u = true := fun b hb => by
    by_cases z : b = a
    · rw [z]; exact ⟨_, upd_same, rfl, rfl⟩
    · rw [upd_ne z]; exact s.av b hb
  refine ⟨s.len, s.nd, s.dis, fun b hb => nd b hb, fun n b o h1 h2 => ?_, s.ok.put _ _ a _ _ s.tabs h rfl rfl rfl, s.ok⟩
  have hb : b ≠ a := fun z => s.dis b (List.mem_of_getElem? h1) (by rw [z]; exact hm)
  have r := s.obj n b o h1 h2
  cases o with
  | lst ds => obtain ⟨zs, e1, e2⟩ := r; exact ⟨zs, by rw [upd_ne hb]; exact e1, RepL.keepOut s.ok k i _ _ e2⟩
theorem ERel.keepOut {φ ψ : List Addr} {H H' : Hp} {env : En} {σ : L2.St} (ok : M.Ok) (k : ∀ b o, H b = some o → b ∉ φ → b ∉ ψ → notTbl o = true → H' b = some o) (i : ∀ b o, H b = some o → Imm o = true → H' b = some o) (r : ERel M φ ψ H env σ) : ERel M φ ψ H' env σ :=
  ⟨r.len, fun j d h => let ⟨v, h1, h2⟩ := r.at_ j d h; ⟨v, h1, Rep.keepOut ok k i _ _ h2⟩⟩
theorem rd_lc {own : List (Str × Nat)} {mi : En → Sto → R Wk} {is : List Nat} {g : TG} {T : D → Option (List D)} {mt : En → Sto → R Bool} {me : En → Sto → R D} (hT : Tg M is g T) (his : ∀ i ∈ is, i ∈ own.map (·.2)) {σ : L2.St} {H : Hp} {Q : VK}
    (h : rdF M W (lcM mi (own.map (·.2)) is T mt me) σ H Q) : tLc (rd M (rpW M) W mi) g (rdB M W0 mt) (rdD M W0 me) (own.map (·.2)) σ H Q := by
  obtain ⟨env, S, φ, ψ, er, sr, p⟩ := h
  refine ⟨env, S, φ, ψ, er, sr, ?_⟩
  unfold lcM at p
  cases hm : mi env S with
  | stuck => rw [hm] at p; exact p
  | err x S1 => rw [hm] at p; exact p
  | ok w S1 =>
  rw [hm] at p
  simp only [DL.R.bind_ok] at p
  rintro φ1 H1 J ex ⟨s1, wk⟩ L hL
  have er1 : ERel M φ1 (L :: ψ) (upd H1 L (.lst [])) (wipeE env (own.map (·.2))) (wipe σ (own.map (·.2))) := (((er.mono s1.ok ex).fresh hL).mono s1.ok (Ext.laidNew hL)).wipe _
  generalize hwe : wipeE env (own.map (·.2)) = env0 at p er1
  generalize w.cnt S1 = n0 at p
  let P : Nat → Nat → Hp → Prop := fun i k H' => ∃ φ' acc S' xs, Ext φ1 H1 φ' H' ∧ SRel M φ' (L :: ψ) S' H' ∧ ERel M φ' (L :: ψ) H' env0 (wipe σ (own.map (·.2))) ∧ H' L = some (.lst xs) ∧ RepL M φ' (L :: ψ) H' acc xs ∧ Post (rpF M ψ) φ H (lcK w env0 is T mt me k i acc S') Q (fun cls od H' => W cls od σ H')
  refine ⟨fun i m H' => P i m H', ⟨n0, φ1, [], S1, [], Ext.laidNew hL, s1.add hL, er1, upd_same, .nil, p⟩, ?_⟩
  rintro i k H2 ⟨φ2, acc, S2, xs, e2, s2, er2, hL2, rl2, p2⟩
  cases hw : w.at S2 i with
  | none => unfold lcK at p2; rw [hw] at p2; exact p2.elim
  | some r =>
    have hwk := wk [L] φ2 H2 S2 (by simpa using hL) e2 s2 i r hw
    cases r with
    | none =>
      refine .inl ⟨hwk, ?_⟩
      unfold lcK at p2
      rw [hw] at p2
      refine p2 φ2 H2 _ (ex.trans e2) ⟨L, xs, rfl, ?_, s2, hL2, rl2⟩
      cases q : H L with
      | none => rfl
      | some o => exact absurd hL (ex.dom L (by rw [q]; simp))
    | some d =>
      obtain ⟨hgo, hy⟩ := hwk
      refine .inr ⟨hgo, ?_⟩
      cases k with
      | zero => unfold lcK at p2; rw [hw] at p2; exact p2.elim
      | succ k =>
        unfold lcK at p2
        rw [hw] at p2
        refine ⟨P (i + 1) k, fun H' h => ⟨k, Nat.lt_succ_self k, h⟩, fun x H3 y => ?_⟩
        obtain ⟨e3, s3, r3⟩ := hy x H3 y
        dsimp only at p2
        cases hd : T d with
        | none => rw [hd] at p2; exact p2.elim
        | some zs =>
          rw [hd] at p2
          dsimp only at p2
          have er3 := er2.mono s3.ok e3
          obtain ⟨l1, ys, ry, kg⟩ := hT.go φ2 (L :: ψ) S2 H3 d x zs (wipe σ (own.map (·.2))) (fun σ2 H2 => wipe σ2 (own.map (·.2)) = wipe σ (own.map (·.2)) ∧ rdB M W0 mt σ2 H2 fun b H3 =>
            if b = true then rdD M W0 me σ2 H3 fun y H4 => ∃ acc, H4 L = some (.lst acc) ∧ acc.length < sizeLine ∧ P (i + 1) k (upd H4 L (.lst (acc ++ [y]))) else P (i + 1) k H3) s3 r3 hd
          refine kg ⟨?_, ?_⟩
          · rw [wipe_setV his, wipe_wipe]
          · have er4 := er3.setL (is := is) ry
            refine ⟨_, S2, φ2, L :: ψ, er4, s3, ?_⟩
            have stuck0 : ∀ {α β : Type} {r : R α} {f : α → Sto → R (List D)}, Post (rpF M ψ) φ H (r.go f) Q (fun cls od H' => W cls od σ H') → ∃ a S, r = .ok a S ∧ Post (rpF M ψ) φ H (f a S) Q (fun cls od H' => W cls od σ H') := fun {α β r f} q => by
              cases r with
              | ok a S => exact ⟨a, S, rfl, q⟩
              | err x S => exact q.elim
              | stuck => exact q.elim
            obtain ⟨b, S3, hb, p3⟩ := stuck0 (β := Nat) p2
            rw [hb]
            rintro φ4 H4 b' e4 ⟨s4, rfl⟩
            -- the list L stands as it stood
            have hL4 : H4 L = some (.lst xs) := e4.keep L _ (e3.keep L _ hL2 (fun hm => s2.dis L hm List.mem_cons_self) rfl) (fun hm => s3.dis L hm List.mem_cons_self) rfl
            have rl4 := RepL.mono s4.ok e4 _ _ (RepL.mono s3.ok e3 _ _ rl2)
            have er5 := er4.mono s4.ok e4
            cases b with
            | false =>
              simp only [Bool.false_eq_true, if_false] at p3 ⊢
              exact ⟨φ4, acc, S3, xs, (e2.trans e3).trans e4, s4, (er3.mono s4.ok e4), hL4, rl4, p3⟩
            | true =>
              simp only [if_true] at p3 ⊢
              refine ⟨_, S3, φ4, L :: ψ, er5, s4, ?_⟩
              obtain ⟨u, S5, hu, p5⟩ := stuck0 (β := Nat) p3
              rw [hu]
              rintro φ5 H5 v e5 ⟨s5, rv⟩
              have hL5 : H5 L = some (.lst xs) := e5.keep L _ hL4 (fun hm => s4.dis L hm List.mem_cons_self) rfl
              have rl5 := RepL.mono s5.ok e5 _ _ rl4
              by_cases hz : acc.length < sizeLine
              · rw [if_pos hz] at p5
                obtain ⟨kk, ki⟩ := mine_keep (φ := φ5) (ψ := L :: ψ) (ys := xs ++ [v]) List.mem_cons_self hL5
                refine ⟨xs, hL5, by rw [← rl2.length]; exact hz, φ5, acc ++ [u], S5, xs ++ [v], ?_, s5.mine List.mem_cons_self hL5, ERel.keepOut s5.ok kk ki ((er3.mono s4.ok e4).mono s5.ok e5), upd_same, RepL.keepOut s5.ok kk ki _ _ (rl5.append (.cons rv .nil)), p5⟩
                have eAll := ((e2.trans e3).trans e4).trans e5
                have nL : ∀ b, H1 b ≠ none → b ≠ L := fun b hb z => hb (z ▸ hL)
                exact ⟨eAll.pre, fun b o h1 h2 h3 => by rw [upd_ne (nL b (by rw [h1]; simp))]; exact eAll.keep b o h1 h2 h3, fun b o h1 h2 => by rw [upd_ne (nL b (by rw [h1]; simp))]; exact eAll.imm b o h1 h2, fun b h1 => by rw [upd_ne (nL b h1)]; exact eAll.dom b h1⟩
              · rw [if_neg hz] at p5; exact p5.elim
/-- [elt for target in what is walked if ..] -/
theorem df_lc {elt iter : Expr} {ifs : List Expr} {scope : Scope} {own : List (Str × Nat)} {mi : En → Sto → R Wk} {is : List Nat} {g : TG} {T : D → Option (List D)} {mt : En → Sto → R Bool} {me : En → Sto → R D}
    (hc : X.calm = true) (hN : X.N.Nodup) (hi : DI X M W tg iter mi) (ok : BlkOk X.N X.env.scope scope own) (hT : Tg M is g T) (his : ∀ i ∈ is, i ∈ own.map (·.2))
    (hg : ∀ (s : Shared) (H : Hp) (C : Addr) (cl : List (Str × Addr)) (fp : List Addr), PG (X.blk s H scope (compEnvC scope cl C X.env) fp) tg g)
    (ht : ∀ (s : Shared) (H : Hp) (C : Addr) (cl : List (Str × Addr)) (fp : List Addr), DTs (X.blk s H scope (compEnvC scope cl C X.env) fp) M W0 ifs mt)
    (he : ∀ (s : Shared) (H : Hp) (C : Addr) (cl : List (Str × Addr)) (fp : List Addr), DE (X.blk s H scope (compEnvC scope cl C X.env) fp) M W0 elt me)
    (hs : ∀ x, foldedSetIterable iter X.env x = pure x := by intro _; rfl) :
    DF X M W (.ListComp elt [⟨tg, iter, ifs, 0⟩] scope pos) (lcM mi (own.map (·.2)) is T mt me) :=
  pe_imp (pe_lc hc hN hi ok hg ht he hs) fun σ H Q h => rd_lc hT his h
/-- over a row of data: by the row -/
def lcL (env0 : En) (is : List Nat) (T : D → Option (List D)) (mt : En → Sto → R Bool) (me : En → Sto → R D) : List D → List D → Sto → R (List D)
  | [], acc, S => .ok acc S
  | d :: ds, acc, S => match T d with
    | none => .stuck
    | some xs => (mt (setE env0 is xs) S).go fun b S1 => if b = true then (me (setE env0 is xs) S1).go fun y S2 => if acc.length < sizeLine then lcL env0 is T mt me ds (acc ++ [y]) S2 else .stuck else lcL env0 is T mt me ds acc S1
theorem lcK_seq {env0 : En} {is : List Nat} {T : D → Option (List D)} {mt : En → Sto → R Bool} {me : En → Sto → R D} {all : List D} : ∀ (ds : List D) (i : Nat) (acc : List D) (S : Sto), all.drop i = ds → lcK (.seq all) env0 is T mt me ds.length i acc S = lcL env0 is T mt me ds acc S
  | [], i, acc, S, h => by
    have hi : all[i]? = none := by
      rw [List.getElem?_eq_none_iff]
      have := congrArg List.length h
      simp at this
      omega
    unfold lcK lcL
    simp only [Wk.at, hi]
  | d :: ds, i, acc, S, h => by
    have hi : all[i]? = some d := by
      have := congrArg (fun l => l[0]?) h
      simpa using this
    have hd : all.drop (i + 1) = ds := by
      have := congrArg List.tail h
      simpa using this
    unfold lcL
    simp only [List.length_cons]
    unfold lcK
    simp only [Wk.at, hi]
    cases T d with
    | none => rfl
    | some xs =>
      simp only
      congr 1
      funext b S1
      split
      · congr 1
        funext y S2
        split
        · exact lcK_seq ds (i + 1) _ S2 hd
        · rfl
      · exact lcK_seq ds (i + 1) _ S1 hd
end
end DL
end

section
set_option Elab.async false
set_option linter.all false
set_option maxRecDepth 100000
set_option maxHeartbeats 1000000
/-! DL, part 6: statements. -/
namespace DL
open PySem PySem.Spec PyProof.Rows L2

/-- how a statement ends -/
inductive RS where
  | nx (env : En) (S : Sto)
  | rt (d : D) (S : Sto)
  | bk (env : En) (S : Sto)
  | ct (env : En) (S : Sto)
  | er (x : D) (env : En) (S : Sto)
  | stuck
def R.st {α : Type} (r : R α) (env : En) (f : α → Sto → RS) : RS := match r with
  | .ok a S => f a S
  | .err x S => .er x env S
  | .stuck => .stuck
@[simp] theorem R.st_ok {α : Type} (a : α) (S : Sto) (env : En) (f : α → Sto → RS) : (R.ok a S).st env f = f a S := rfl
@[simp] theorem R.st_err {α : Type} (x : D) (S : Sto) (env : En) (f : α → Sto → RS) : (R.err x S : R α).st env f = .er x env S := rfl
@[simp] theorem R.st_stuck {α : Type} (env : En) (f : α → Sto → RS) : (R.stuck : R α).st env f = .stuck := rfl
@[simp] theorem R.go_ok {α β : Type} (a : α) (S : Sto) (f : α → Sto → R β) : (R.ok a S).go f = f a S := rfl
@[simp] theorem R.go_err {α β : Type} (x : D) (S : Sto) (f : α → Sto → R β) : (R.err x S : R α).go f = .stuck := rfl
@[simp] theorem R.go_stuck {α β : Type} (f : α → Sto → R β) : (R.stuck : R α).go f = .stuck := rfl

def PostS (M : Mp) (ψ φ : List Addr) (H : Hp) (r : RS) (E : Ends) (W : WX) : Prop := match r with
  | .nx env S => ∀ φ' H' σ', Ext φ H φ' H' → SRel M φ' ψ S H' → ERel M φ' ψ H' env σ' → E.nx σ' H'
  | .rt d S => ∀ φ' H' v, Ext φ H φ' H' → SRel M φ' ψ S H' → Rep M φ' ψ H' d v → E.rt v H'
  | .bk env S => ∀ φ' H' σ', Ext φ H φ' H' → SRel M φ' ψ S H' → ERel M φ' ψ H' env σ' → E.bk σ' H'
  | .ct env S => ∀ φ' H' σ', Ext φ H φ' H' → SRel M φ' ψ S H' → ERel M φ' ψ H' env σ' → E.ct σ' H'
  | .er x env S => ∀ φ' H' σ' cls od, Ext φ H φ' H' → SRel M φ' ψ S H' → ERel M φ' ψ H' env σ' → RepX M φ' ψ H' x cls od → W cls od σ' H'
  | .stuck => False
abbrev FM := En → Sto → RS
def rdS (M : Mp) (W : WX) (m : FM) : TS := fun E σ H => ∃ env S φ ψ, ERel M φ ψ H env σ ∧ SRel M φ ψ S H ∧ PostS M ψ φ H (m env S) E W
def DS (X : Cx) (M : Mp) (W : WX) (st : Stmt) (m : FM) : Prop := PS X st (rdS M W m)
def DSs (X : Cx) (M : Mp) (W : WX) (sts : List Stmt) (m : FM) : Prop := PSs X sts (rdS M W m)
section
variable {M : Mp} {ψ φ φ1 : List Addr} {H H1 : Hp} {E E' : Ends} {W W' : WX} {X : Cx}
theorem PostS.ext {r : RS} (h : PostS M ψ φ H r E W) (e : Ext φ H φ1 H1) : PostS M ψ φ1 H1 r E W := by
  cases r with
  | nx env S => exact fun φ' H' σ' e' => h φ' H' σ' (e.trans e')
  | rt d S => exact fun φ' H' v e' => h φ' H' v (e.trans e')
  | bk env S => exact fun φ' H' σ' e' => h φ' H' σ' (e.trans e')
  | ct env S => exact fun φ' H' σ' e' => h φ' H' σ' (e.trans e')
  | er x env S => exact fun φ' H' σ' cls od e' => h φ' H' σ' cls od (e.trans e')
  | stuck => exact h
theorem PostS.imp {r : RS} (h : PostS M ψ φ H r E W) (k1 : ∀ σ H, E.nx σ H → E'.nx σ H) (k2 : ∀ v H, E.rt v H → E'.rt v H) (k3 : ∀ σ H, E.bk σ H → E'.bk σ H) (k4 : ∀ σ H, E.ct σ H → E'.ct σ H) : PostS M ψ φ H r E' W := by
  cases r with
  | nx env S => exact fun φ' H' σ' e' s r => k1 _ _ (h φ' H' σ' e' s r)
  | rt d S => exact fun φ' H' v e' s r => k2 _ _ (h φ' H' v e' s r)
  | bk env S => exact fun φ' H' σ' e' s r => k3 _ _ (h φ' H' σ' e' s r)
  | ct env S => exact fun φ' H' σ' e' s r => k4 _ _ (h φ' H' σ' e' s r)
  | er x env S => exact h
  | stuck => exact h
theorem ps_imp {st : Stmt} {t t' : TS} (h : PS X st t) (k : ∀ E σ H, t' E σ H → t E σ H) : PS X st t' := ⟨fun pins s σ H E I q => h.run pins s σ H E I (k E σ H q)⟩
theorem pss_imp {st : List Stmt} {t t' : TS} (h : PSs X st t) (k : ∀ E σ H, t' E σ H → t E σ H) : PSs X st t' := ⟨fun pins s σ H E I q => h.run pins s σ H E I (k E σ H q)⟩
/-- a statement's first reckoning -/
theorem rd_st {α β : Type} {rp : ∀ ψ, Rp M ψ α β} {m : En → Sto → R α} {f : En → α → Sto → RS} {σ : L2.St} (h : rdS M W (fun env S => (m env S).st env (f env)) E σ H)
    (Q1 : β → Hp → Prop) (k : ∀ (env : En) (φ φ1 ψ : List Addr) (a : α) (b : β) (S1 : Sto) (H1 : Hp), ERel M φ ψ H env σ → Ext φ H φ1 H1 → (M.Ok → ERel M φ1 ψ H1 env σ) → (rp ψ).rel H φ1 S1 H1 a b → PostS M ψ φ1 H1 (f env a S1) E W → Q1 b H1) : rd M rp W m σ H Q1 := by
  obtain ⟨env, S, φ, ψ, er, sr, p⟩ := h
  refine ⟨env, S, φ, ψ, er, sr, ?_⟩
  dsimp only at p
  cases e : m env S with
  | ok a S1 => rw [e] at p; exact fun φ1 H1 b ex q => k env φ φ1 ψ a b S1 H1 er ex (fun ok => er.mono ok ex) q (p.ext ex)
  | err x S1 => rw [e] at p; exact fun φ1 H1 cls od ex s q => p φ1 H1 σ cls od ex s (er.mono s.ok ex) q
  | stuck => rw [e] at p; exact p
theorem rd_stD {m : En → Sto → R D} {f : En → D → Sto → RS} {σ : L2.St} (h : rdS M W (fun env S => (m env S).st env (f env)) E σ H)
    (Q1 : V → Hp → Prop) (k : ∀ (env : En) (φ1 ψ : List Addr) (d : D) (v : V) (S1 : Sto) (H1 : Hp), ERel M φ1 ψ H1 env σ → SRel M φ1 ψ S1 H1 → Rep M φ1 ψ H1 d v → PostS M ψ φ1 H1 (f env d S1) E W → Q1 v H1) : rdD M W m σ H Q1 :=
  rd_st (rp := rpD M) h Q1 fun env φ φ1 ψ d v S1 H1 _ _ er q p => k env φ1 ψ d v S1 H1 (er q.1.ok) q.1 q.2 p
theorem rd_stA {m : En → Sto → R (List D)} {f : En → List D → Sto → RS} {σ : L2.St} (h : rdS M W (fun env S => (m env S).st env (f env)) E σ H)
    (Q1 : List V → Hp → Prop) (k : ∀ (env : En) (φ1 ψ : List Addr) (d : List D) (v : List V) (S1 : Sto) (H1 : Hp), ERel M φ1 ψ H1 env σ → SRel M φ1 ψ S1 H1 → RepL M φ1 ψ H1 d v → PostS M ψ φ1 H1 (f env d S1) E W → Q1 v H1) : rdA M W m σ H Q1 :=
  rd_st (rp := rpA M) h Q1 fun env φ φ1 ψ d v S1 H1 _ _ er q p => k env φ1 ψ d v S1 H1 (er q.1.ok) q.1 q.2 p
theorem rd_stB {m : En → Sto → R Bool} {f : En → Bool → Sto → RS} {σ : L2.St} (h : rdS M W (fun env S => (m env S).st env (f env)) E σ H)
    (Q1 : Bool → Hp → Prop) (k : ∀ (env : En) (φ1 ψ : List Addr) (b : Bool) (S1 : Sto) (H1 : Hp), ERel M φ1 ψ H1 env σ → SRel M φ1 ψ S1 H1 → PostS M ψ φ1 H1 (f env b S1) E W → Q1 b H1) : rdB M W m σ H Q1 :=
  rd_st (rp := rpB M) h Q1 fun env φ φ1 ψ d v S1 H1 _ _ er q p => by obtain ⟨q1, rfl⟩ := q; exact k env φ1 ψ d S1 H1 (er q1.ok) q1 p
theorem PostS.toNx {env : En} {S : Sto} {σ : L2.St} (p : PostS M ψ φ H (.nx env S) E W) (s : SRel M φ ψ S H) (e : ERel M φ ψ H env σ) : E.nx σ H := p φ H σ (.refl _ _) s e
theorem PostS.toRt {d : D} {v : V} {S : Sto} (p : PostS M ψ φ H (.rt d S) E W) (s : SRel M φ ψ S H) (r : Rep M φ ψ H d v) : E.rt v H := p φ H v (.refl _ _) s r
end

/-! ### the plain ones -/
def retM (m : En → Sto → R D) : FM := fun env S => (m env S).st env fun d S1 => .rt d S1
def retNM : FM := fun _ S => .rt .non S
def passM : FM := fun env S => .nx env S
def brkM : FM := fun env S => .bk env S
def cntM : FM := fun env S => .ct env S
def expM (m : En → Sto → R D) : FM := fun env S => (m env S).st env fun _ S1 => .nx env S1
def setM (i : Nat) (m : En → Sto → R D) : FM := fun env S => (m env S).st env fun d S1 => .nx (env.set i (some d)) S1
def asgM (is : List Nat) (T : D → Option (List D)) (m : En → Sto → R D) : FM := fun env S => (m env S).st env fun d S1 => match T d with
  | some xs => .nx (setE env is xs) S1
  | none => .stuck
def parM (i j : Nat) (ms : En → Sto → R (List D)) : FM := fun env S => (ms env S).st env fun ds S1 => match ds with
  | [a, b] => .nx ((env.set i (some a)).set j (some b)) S1
  | _ => .stuck
def seqM (m k : FM) : FM := fun env S => match m env S with
  | .nx env1 S1 => k env1 S1
  | r => r
def ifS (m : En → Sto → R Bool) (a b : FM) : FM := fun env S => (m env S).st env fun c S1 => if c = true then a env S1 else b env S1
section
variable {M : Mp} {W : WX} {X : Cx} {pos : Pos} {e : Expr} {m : En → Sto → R D}
theorem ds_ret (h : DE X M W e m) : DS X M W (.Return (some e) pos) (retM m) := ps_imp (ps_ret h) fun E σ H h => rd_stD h _ fun env φ1 ψ d v S1 H1 er sr r p => p.toRt sr r
theorem ds_retN : DS X M W (.Return none pos) retNM := ps_imp ps_retN fun E σ H ⟨env, S, φ, ψ, er, sr, p⟩ => p.toRt sr (by simp only [Rep])
theorem ds_pass : DS X M W (.Pass pos) passM := ps_imp ps_pass fun E σ H ⟨env, S, φ, ψ, er, sr, p⟩ => p.toNx sr er
theorem ds_brk : DS X M W (.Break pos) brkM := ps_imp ps_break fun E σ H ⟨env, S, φ, ψ, er, sr, p⟩ => p φ H σ (.refl _ _) sr er
theorem ds_cnt : DS X M W (.Continue pos) cntM := ps_imp ps_continue fun E σ H ⟨env, S, φ, ψ, er, sr, p⟩ => p φ H σ (.refl _ _) sr er
theorem ds_expr (h : DE X M W e m) (hs : swapsWith e none pos.line X.env = pure false := by rfl) : DS X M W (.Expr e pos) (expM m) := ps_imp (ps_expr h hs) fun E σ H h => rd_stD h _ fun env φ1 ψ d v S1 H1 er sr r p => p.toNx sr er
theorem ds_set (i : Nat) {x : Str} {pos' : Pos} (hN : X.N.Nodup) (h : DE X M W e m) (hi : X.N[i]? = some x := by rfl) (hx : Loc X.env.scope x := by first | exact Or.inl rfl | exact Or.inr rfl) (hs : swapsWith e (some (.Name x pos')) pos.line X.env = pure false := by rfl)
    (hf : X.fn x = true ∨ X.env.scope.names.lookup x = some .local := by first | exact .inl rfl | exact .inr rfl) : DS X M W (.Assign [.Name x pos'] e pos) (setM i m) :=
  ps_imp (ps_set hN hi hx h hs hf) fun E σ H h => rd_stD h _ fun env φ1 ψ d v S1 H1 er sr r p => p.toNx sr (er.set r)
/-- name = [.. for ..] on one line -/
theorem ds_setLc (i : Nat) {x : Str} {py spos p1 : Pos} {elt tg iter : Expr} {ifs : List Expr} {scope : Scope} {own : List (Str × Nat)} {mi : En → Sto → R Wk} {is : List Nat} {g : TG} {T : D → Option (List D)} {mt : En → Sto → R Bool} {me : En → Sto → R D} {fz : (En → Sto → R (List D)) → En → Sto → R D}
    (hz : ∀ {ml : En → Sto → R (List D)} {σ : L2.St} {H : Hp} {Q : VK}, rdD M W (fz ml) σ H Q → rdF M W ml σ H Q) (hc : X.calm = true) (hN : X.N.Nodup) (hi : DI X M W tg iter mi) (ok : BlkOk X.N X.env.scope scope own) (hT : Tg M is g T) (his : ∀ i ∈ is, i ∈ own.map (·.2))
    (hg : ∀ (s : Shared) (H : Hp) (C : Addr) (cl : List (Str × Addr)) (fp : List Addr), PG (X.blk s H scope (compEnvC scope cl C X.env) fp) tg g)
    (ht : ∀ (s : Shared) (H : Hp) (C : Addr) (cl : List (Str × Addr)) (fp : List Addr), DTs (X.blk s H scope (compEnvC scope cl C X.env) fp) M W0 ifs mt)
    (he : ∀ (s : Shared) (H : Hp) (C : Addr) (cl : List (Str × Addr)) (fp : List Addr), DE (X.blk s H scope (compEnvC scope cl C X.env) fp) M W0 elt me)
    (hx : X.N[i]? = some x := by rfl) (hl : X.env.scope.names.lookup x = some .local := by rfl)
    (hsw : swapsWith (.ListComp elt [⟨tg, iter, ifs, 0⟩] scope p1) (some (.Name x py)) spos.line X.env = pure true := by first | exact sw_true rfl rfl rfl rfl | rfl)
    (hs : ∀ x, foldedSetIterable iter X.env x = pure x := by intro _; rfl) :
    DS X M W (.Assign [.Name x py] (.ListComp elt [⟨tg, iter, ifs, 0⟩] scope p1) spos) (setM i (fz (lcM mi (own.map (·.2)) is T mt me))) :=
  ps_imp (ps_setLc hc hN hx hl hsw hi ok hg ht he hs) fun E σ H h => rd_lc hT his (hz (rd_stD h _ fun env φ1 ψ d v S1 H1 er sr r p => p.toNx sr (er.set r)))
theorem ds_asg {tg : Expr} {is : List Nat} {g : TG} {T : D → Option (List D)} (h : DE X M W e m) (hT : Tg M is g T) (hg : PG X tg g) (hs : swapsWithSole [tg] e pos.line X.env = pure false := by rfl) (hw : swappedStores [tg] e X.env = pure none := by rfl)
    (h1 : (assignEach [tg] X.env).map (·.2) = [assign tg X.env] := by rfl) : DS X M W (.Assign [tg] e pos) (asgM is T m) :=
  ps_imp (ps_asg h hg hs hw h1) fun E σ H h => rd_stD h _ fun env φ1 ψ d v S1 H1 er sr r p => by
    cases hd : T d with
    | none => rw [hd] at p; exact p.elim
    | some zs =>
      rw [hd] at p
      obtain ⟨l1, ys, ry, kg⟩ := hT.go φ1 ψ S1 H1 d v zs σ E.nx sr r hd
      exact kg (p.toNx sr (er.setL ry))
theorem ds_par (i j : Nat) {x y : Str} {a b : Expr} {ms : En → Sto → R (List D)} {px py pt : Pos} {kt k2 pt2} (hc : X.calm = true) (hN : X.N.Nodup) (ha : DA X M W [a, b] ms) (hi : X.N[i]? = some x := by rfl) (hj : X.N[j]? = some y := by rfl) (hij : i ≠ j := by decide)
    (hx : X.env.scope.names.lookup x = some .local := by rfl) (hy : X.env.scope.names.lookup y = some .local := by rfl)
    (hw : swappedStores [.Tuple [.Name x px, .Name y py] kt pt] (.Tuple [a, b] k2 pt2) X.env = pure (some [x, y]) := by rfl)
    (hs : swapsWithSole [.Tuple [.Name x px, .Name y py] kt pt] (.Tuple [a, b] k2 pt2) pos.line X.env = pure false := by rfl) :
    DS X M W (.Assign [.Tuple [.Name x px, .Name y py] kt pt] (.Tuple [a, b] k2 pt2) pos) (parM i j ms) :=
  ps_imp (ps_par hc hN hi hj hij hx hy ha hw hs) fun E σ H h => rd_stA h _ fun env φ1 ψ ds vs S1 H1 er sr r p => by
    skip
    split at p
    · obtain ⟨v, w, ev, r1, r2⟩ := r.two
      exact ⟨v, w, ev, p.toNx sr ((er.set r1).set r2)⟩
    · exact p.elim
theorem ds_if {c : Expr} {a b : List Stmt} {mc : En → Sto → R Bool} {ma mb : FM} (hc : DT X M W c mc) (ha : DSs X M W a ma) (hb : DSs X M W b mb) : DS X M W (.If c a b pos) (ifS mc ma mb) :=
  ps_imp (ps_if hc ha hb) fun E σ H h => rd_stB h _ fun env φ1 ψ c S1 H1 er sr p => by
    cases c with
    | true => exact ⟨env, S1, φ1, ψ, er, sr, p⟩
    | false => exact ⟨env, S1, φ1, ψ, er, sr, p⟩
theorem dss_nil : DSs X M W [] passM := pss_imp pss_nil fun E σ H ⟨env, S, φ, ψ, er, sr, p⟩ => p.toNx sr er
theorem dss_one {st : Stmt} {m : FM} (h : DS X M W st m) : DSs X M W [st] m := pss_one h
theorem dss_cons {st : Stmt} {rest : List Stmt} {m k : FM} (h : DS X M W st m) (hk : DSs X M W rest k) : DSs X M W (st :: rest) (seqM m k) :=
  pss_imp (pss_cons h hk) fun E σ H ⟨env, S, φ, ψ, er, sr, p⟩ => ⟨env, S, φ, ψ, er, sr, by
    unfold seqM at p
    cases hm : m env S with
    | nx env1 S1 => rw [hm] at p; exact fun φ' H' σ' e s r => ⟨env1, S1, φ', ψ, r, s, PostS.ext p e⟩
    | rt d S1 => rw [hm] at p; exact p
    | bk env1 S1 => rw [hm] at p; exact p
    | ct env1 S1 => rw [hm] at p; exact p
    | er x env1 S1 => rw [hm] at p; exact p
    | stuck => rw [hm] at p; exact p⟩
end

/-! ### while; for -/
/-- so many turns as are needed, at most n -/
def whK (c : En → Sto → R Bool) (b : FM) : Nat → FM
  | 0 => fun _ _ => .stuck
  | n + 1 => fun env S => (c env S).st env fun t S1 => if t = true then
      match b env S1 with
      | .nx env1 S2 => whK c b n env1 S2
      | .ct env1 S2 => whK c b n env1 S2
      | .bk env1 S2 => .nx env1 S2
      | r => r
    else .nx env S1
def whM (n : Nat) (c : En → Sto → R Bool) (b : FM) : FM := whK c b n
def forK (w : Wk) (is : List Nat) (T : D → Option (List D)) (b : FM) : Nat → Nat → FM
  | k, i => fun env S => match w.at S i with
    | none => .stuck
    | some none => .nx env S
    | some (some d) => match k with
      | 0 => .stuck
      | k + 1 => match T d with
        | none => .stuck
        | some xs => match b (setE env is xs) S with
          | .nx env1 S1 => forK w is T b k (i + 1) env1 S1
          | .ct env1 S1 => forK w is T b k (i + 1) env1 S1
          | .bk env1 S1 => .nx env1 S1
          | r => r
def forM (mi : En → Sto → R Wk) (is : List Nat) (T : D → Option (List D)) (b : FM) : FM := fun env S => (mi env S).st env fun w S1 => forK w is T b (w.cnt S1) 0 env S1
/-- over a row of data: by the row -/
def forL (is : List Nat) (T : D → Option (List D)) (b : FM) : List D → FM
  | [] => fun env S => .nx env S
  | d :: ds => fun env S => match T d with
    | none => .stuck
    | some xs => match b (setE env is xs) S with
      | .nx env1 S1 => forL is T b ds env1 S1
      | .ct env1 S1 => forL is T b ds env1 S1
      | .bk env1 S1 => .nx env1 S1
      | r => r
theorem forK_seq {is : List Nat} {T : D → Option (List D)} {b : FM} {all : List D} : ∀ (ds : List D) (i : Nat) (env : En) (S : Sto), all.drop i = ds → forK (.seq all) is T b ds.length i env S = forL is T b ds env S
  | [], i, env, S, h => by
    have hi : all[i]? = none := by
      rw [List.getElem?_eq_none_iff]
      have := congrArg List.length h
      simp at this
      omega
    unfold forK forL
    simp only [Wk.at, hi]
  | d :: ds, i, env, S, h => by
    have hi : all[i]? = some d := by
      have := congrArg (fun l => l[0]?) h
      simpa using this
    have hd : all.drop (i + 1) = ds := by
      have := congrArg List.tail h
      simpa using this
    unfold forL
    simp only [List.length_cons]
    unfold forK
    simp only [Wk.at, hi]
    cases T d with
    | none => rfl
    | some xs =>
      simp only
      cases b (setE env is xs) S with
      | nx env1 S1 => exact forK_seq ds (i + 1) env1 S1 hd
      | ct env1 S1 => exact forK_seq ds (i + 1) env1 S1 hd
      | _ => rfl
section
variable {M : Mp} {W : WX} {X : Cx} {pos : Pos}
theorem ds_while (n : Nat) {c : Expr} {body : List Stmt} {mc : En → Sto → R Bool} {mb : FM} (hp : PassesOwn (model X.prog X.w) X.A X.env X.xe) (hc : DT X M W c mc) (hb : DSs X M W body mb) : DS X M W (.While c body [] pos) (whM n mc mb) := by
  refine ps_imp (ps_while hp hc hb) fun E σ H h => ?_
  refine ⟨fun k σ H => rdS M W (whK mc mb k) E σ H, ⟨n, h⟩, fun k σ H h => ?_⟩
  cases k with
  | zero => obtain ⟨env, S, φ, ψ, er, sr, p⟩ := h; exact p.elim
  | succ k =>
    refine rd_stB (show rdS M W (fun env S => (mc env S).st env fun t S1 => if t = true then
      match mb env S1 with
      | .nx env1 S2 => whK mc mb k env1 S2
      | .ct env1 S2 => whK mc mb k env1 S2
      | .bk env1 S2 => .nx env1 S2
      | r => r
    else .nx env S1) E σ H from h) _ fun env φ1 ψ t S1 H1 er sr p => ?_
    cases t with
    | false => simp only [Bool.false_eq_true, if_false] at p ⊢; exact p.toNx sr er
    | true =>
      simp only [if_true] at p ⊢
      refine ⟨fun σ H => rdS M W (whK mc mb k) E σ H, fun σ' H' h' => ⟨k, Nat.lt_succ_self k, h'⟩, env, S1, φ1, ψ, er, sr, ?_⟩
      cases hm : mb env S1 with
      | nx env1 S2 => rw [hm] at p; exact fun φ' H' σ' e s r => ⟨env1, S2, φ', ψ, r, s, PostS.ext p e⟩
      | ct env1 S2 => rw [hm] at p; exact fun φ' H' σ' e s r => ⟨env1, S2, φ', ψ, r, s, PostS.ext p e⟩
      | bk env1 S2 => rw [hm] at p; exact p
      | rt d S2 => rw [hm] at p; exact p
      | er x env1 S2 => rw [hm] at p; exact p
      | stuck => rw [hm] at p; exact p
theorem ds_for {tg iter : Expr} {body : List Stmt} {mi : En → Sto → R Wk} {is : List Nat} {g : TG} {T : D → Option (List D)} {mb : FM} (hp : PassesOwn (model X.prog X.w) X.A X.env X.xe) (hc : X.calm = true) (hi : DI X M W tg iter mi) (hT : Tg M is g T) (hg : PG X tg g) (hb : DSs X M W body mb)
    (hs : ∀ x, foldedSetIterable iter X.env x = pure x := by intro _; rfl) : DS X M W (.For tg iter body [] pos) (forM mi is T mb) := by
  refine ps_imp (ps_for hp hc hi hg hb hs) fun E σ H h => ?_
  refine rd_st (rp := rpW M) h _ fun env φ φ1 ψ w J S1 H1 _ _ er0 ⟨sr, wk⟩ p => ?_
  have er := er0 sr.ok
  generalize w.cnt S1 = n at p
  let P : Nat → Nat → L2.St → Hp → Prop := fun i k σ' H' => ∃ φ' env' S', Ext φ1 H1 φ' H' ∧ SRel M φ' ψ S' H' ∧ ERel M φ' ψ H' env' σ' ∧ PostS M ψ φ' H' (forK w is T mb k i env' S') E W
  refine ⟨P, ⟨n, φ1, env, S1, .refl _ _, sr, er, p⟩, ?_⟩
  rintro i k σ2 H2 ⟨φ2, env2, S2, e2, s2, er2, p2⟩
  cases hw : w.at S2 i with
  | none => unfold forK at p2; rw [hw] at p2; exact p2.elim
  | some r =>
    have hwk := wk [] φ2 H2 S2 (by simp) e2 s2 i r hw
    cases r with
    | none =>
      refine .inl ⟨hwk, ?_⟩
      unfold forK at p2
      rw [hw] at p2
      exact p2.toNx s2 er2
    | some d =>
      obtain ⟨hgo, hy⟩ := hwk
      refine .inr ⟨hgo, ?_⟩
      cases k with
      | zero => unfold forK at p2; rw [hw] at p2; exact p2.elim
      | succ k =>
        unfold forK at p2
        rw [hw] at p2
        refine ⟨P (i + 1) k, fun σ' H' h => ⟨k, Nat.lt_succ_self k, h⟩, fun x H3 y => ?_⟩
        obtain ⟨e3, s3, r3⟩ := hy x H3 y
        dsimp only at p2
        cases hd : T d with
        | none => rw [hd] at p2; exact p2.elim
        | some zs =>
          rw [hd] at p2
          dsimp only at p2
          have er3 := er2.mono s3.ok e3
          obtain ⟨l1, ys, ry, kg⟩ := hT.go φ2 ψ S2 H3 d x zs σ2 (fun σ2 H2 => rdS M W mb { E with nx := P (i + 1) k, ct := P (i + 1) k, bk := E.nx } σ2 H2) s3 r3 hd
          refine kg ⟨_, S2, φ2, ψ, er3.setL ry, s3, ?_⟩
          cases hm : mb (setE env2 is zs) S2 with
          | nx env4 S4 => rw [hm] at p2; exact fun φ' H' σ' e s r => ⟨φ', env4, S4, (e2.trans e3).trans e, s, r, PostS.ext p2 (e3.trans e)⟩
          | ct env4 S4 => rw [hm] at p2; exact fun φ' H' σ' e s r => ⟨φ', env4, S4, (e2.trans e3).trans e, s, r, PostS.ext p2 (e3.trans e)⟩
          | bk env4 S4 => rw [hm] at p2; exact PostS.ext (r := .bk env4 S4) (show PostS M ψ φ2 H2 (.bk env4 S4) { E with nx := P (i + 1) k, ct := P (i + 1) k, bk := E.nx } W from p2) e3
          | rt d S4 => rw [hm] at p2; exact PostS.ext (r := .rt d S4) (show PostS M ψ φ2 H2 (.rt d S4) { E with nx := P (i + 1) k, ct := P (i + 1) k, bk := E.nx } W from p2) e3
          | er x env4 S4 => rw [hm] at p2; exact PostS.ext (r := .er x env4 S4) (show PostS M ψ φ2 H2 (.er x env4 S4) { E with nx := P (i + 1) k, ct := P (i + 1) k, bk := E.nx } W from p2) e3
          | stuck => rw [hm] at p2; exact p2

/-! ### changes in place -/
/-- a name op= a reckoning -/
def augM (i : Nat) (g : D → D → Option D) (m : En → Sto → R D) : FM := fun env S => match env[i]? with
  | some (some a) => (m env S).st env fun b S1 => match g a b with
    | some c => .nx (env.set i (some c)) S1
    | none => .stuck
  | _ => .stuck
structure Ip2 (M : Mp) (r : TIp) (g : D → D → Option D) : Prop where
  go : ∀ (φ ψ : List Addr) (S : Sto) (H : Hp) (a b c : D) (x y : V) (Q : VK), SRel M φ ψ S H → Rep M φ ψ H a x → Rep M φ ψ H b y → g a b = some c → (∀ z, Rep M φ ψ H c z → Q z H) → r x y H Q
theorem ds_aug (i : Nat) {x : Str} {e : Expr} {m : En → Sto → R D} {op : Operator} {ti : TIp} {g : D → D → Option D} {pos' : Pos} (hN : X.N.Nodup) (he : DE X M W e m) (ho : PIp X op ti ∧ Ip2 M ti g) (hi : X.N[i]? = some x := by rfl) (hx : Loc X.env.scope x := by first | exact Or.inl rfl | exact Or.inr rfl)
    (hf : X.fn x = true ∨ X.env.scope.names.lookup x = some .local := by first | exact .inl rfl | exact .inr rfl) : DS X M W (.AugAssign (.Name x pos') op e pos) (augM i g m) := by
  refine ps_imp (ps_aug hN hi hx he ho.1 hf) fun E σ H h => ?_
  obtain ⟨env, S, φ, ψ, er, sr, p⟩ := h
  unfold augM at p
  split at p
  · rename_i a ha
    obtain ⟨v, h1, h2⟩ := er.at_ i a ha
    refine ⟨v, h1, env, S, φ, ψ, er, sr, ?_⟩
    cases hm : m env S with
    | ok b S1 =>
      rw [hm] at p
      dsimp only [R.st] at p
      rintro φ1 H1 w e1 ⟨s1, r1⟩
      cases hg : g a b with
      | none => rw [hg] at p; exact p.elim
      | some c =>
        rw [hg] at p
        exact ho.2.go φ1 ψ S1 H1 a b c v w _ s1 (Rep.mono s1.ok e1 _ _ h2) r1 hg fun z rz => (PostS.ext p e1).toNx s1 ((er.mono s1.ok e1).set rz)
    | err x S1 => rw [hm] at p; exact fun φ1 H1 cls od ex s q => p φ1 H1 σ cls od ex s (er.mono s.ok ex) q
    | stuck => rw [hm] at p; exact p.elim
  · exact p.elim
def iaddG : D → D → Option D
  | .int i, .int j => some (.int (i + j))
  | _, _ => none
def isubG : D → D → Option D
  | .int i, .int j => some (.int (i - j))
  | _, _ => none
def imulG : D → D → Option D
  | .int i, .int j => if (decide (-(2 ^ 64) < i ∧ i < 2 ^ 64) || decide (-(2 ^ 64) < j ∧ j < 2 ^ 64)) = true then some (.int (i * j)) else none
  | _, _ => none
def idivG : D → D → Option D
  | .int i, .int j => if decide (0 < j ∧ j < 1073741824) = true then some (.int (i / j)) else none
  | _, _ => none
def imodG : D → D → Option D
  | .int i, .int j => if decide (0 < j) = true then some (.int (i % j)) else none
  | _, _ => none
theorem ip_int {op : Operator} {C : Int → Int → Prop} {f : Int → Int → Int} {g : D → D → Option D} (ho : OpR X (inplaceOp op) (rI C fun i j => .int (f i j))) (hg : ∀ a b c, g a b = some c → ∃ i j, a = .int i ∧ b = .int j ∧ C i j ∧ c = .int (f i j)) :
    PIp X op (rI C fun i j => .int (f i j)) ∧ Ip2 M (rI C fun i j => .int (f i j)) g := by
  refine ⟨fun pins s σ H x y v u Q I r1 r2 h => ho pins s σ H x y v u Q I r1 r2 h, ⟨fun φ ψ S H a b c x y Q s r1 r2 h k => ?_⟩⟩
  obtain ⟨i, j, rfl, rfl, hc, rfl⟩ := hg a b c h
  simp only [Rep] at r1 r2
  exact ⟨i, j, r1, r2, hc, k _ (by simp only [Rep])⟩
theorem ip_addG : PIp X .Add (rI (fun _ _ => True) fun i j => .int (i + j)) ∧ Ip2 M (rI (fun _ _ => True) fun i j => .int (i + j)) iaddG :=
  ip_int (opI fun _ _ _ _ _ _ _ _ q => iadd_int q) fun a b c h => by
    cases a <;> cases b <;> simp only [iaddG] at h <;> first | (cases h; done) | (cases h; exact ⟨_, _, rfl, rfl, trivial, rfl⟩)
theorem ip_subG : PIp X .Sub (rI (fun _ _ => True) fun i j => .int (i - j)) ∧ Ip2 M (rI (fun _ _ => True) fun i j => .int (i - j)) isubG :=
  ip_int (opI fun _ _ _ _ _ _ _ _ q => isub_int q) fun a b c h => by
    cases a <;> cases b <;> simp only [isubG] at h <;> first | (cases h; done) | (cases h; exact ⟨_, _, rfl, rfl, trivial, rfl⟩)
theorem ip_mulG : PIp X .Mult (rI CMul fun i j => .int (i * j)) ∧ Ip2 M (rI CMul fun i j => .int (i * j)) imulG :=
  ip_int iop_mul fun a b c h => by
    cases a <;> cases b <;> simp only [imulG] at h <;> try (cases h; done)
    split at h
    · rename_i hz
      cases h
      simp only [Bool.or_eq_true, decide_eq_true_eq] at hz
      exact ⟨_, _, rfl, rfl, hz, rfl⟩
    · cases h
theorem ip_divG : PIp X .FloorDiv (rI CDiv fun i j => .int (i / j)) ∧ Ip2 M (rI CDiv fun i j => .int (i / j)) idivG :=
  ip_int iop_fdiv fun a b c h => by
    cases a <;> cases b <;> simp only [idivG] at h <;> try (cases h; done)
    split at h
    · rename_i hz
      cases h
      have hz' := of_decide_eq_true hz
      exact ⟨_, _, rfl, rfl, hz', rfl⟩
    · cases h
theorem ip_modG : PIp X .Mod (rI (fun _ j => 0 < j) fun i j => .int (i % j)) ∧ Ip2 M (rI (fun _ j => 0 < j) fun i j => .int (i % j)) imodG :=
  ip_int iop_mod fun a b c h => by
    cases a <;> cases b <;> simp only [imodG] at h <;> try (cases h; done)
    split at h
    · rename_i hz
      cases h
      have hz' := of_decide_eq_true hz
      exact ⟨_, _, rfl, rfl, hz', rfl⟩
    · cases h
/-- list[i] = value: the value, the list, the place -/
def stoM (mv mo mi : En → Sto → R D) : FM := fun env S => (mv env S).st env fun v S1 => (mo env S1).st env fun o S2 => (mi env S2).st env fun i S3 => match o, i with
  | .ref n, .int k => match S3[n]? with
    | some (.lst ds) => match ixN ds.length k with
      | some j => .nx env (S3.set n (.lst (ds.set j v)))
      | none => .stuck
    | none => .stuck
  | _, _ => .stuck
theorem ds_sto {o i e : Expr} {mv mo mi : En → Sto → R D} {p' : Pos} (he : DE X M W e mv) (ho : DE X M W o mo) (hi : DE X M W i mi)
    (ha : ∀ v, assign (.Subscript o i p') X.env v = (do
      let ov ← holding [v] (eval o X.env)
      let iv ← holding [v, ov] (eval i X.env)
      standAt p'
      holding [v, ov, iv] (setItem ov iv v)
      release [v, ov, iv] []) := by intro _; rfl)
    (hs : swapsWithSole [.Subscript o i p'] e pos.line X.env = pure false := by rfl) (hw : swappedStores [.Subscript o i p'] e X.env = pure none := by rfl)
    (h1 : (assignEach [.Subscript o i p'] X.env).map (·.2) = [assign (.Subscript o i p') X.env] := by rfl) : DS X M W (.Assign [.Subscript o i p'] e pos) (stoM mv mo mi) := by
  refine ps_imp (ps_asg he (pg_sub ho hi set_list ha) hs hw h1) fun E σ H h => ?_
  refine rd_stD h _ fun env φ1 ψ v x S1 H1 er1 s1 r1 p1 => ?_
  -- the object, behind the value
  show rdD M W mo σ H1 _
  refine ⟨env, S1, φ1, ψ, er1, s1, ?_⟩
  cases hm : mo env S1 with
  | stuck => rw [hm] at p1; exact p1.elim
  | err x S2 => rw [hm] at p1; exact fun φ2 H2 cls od ex s q => p1 φ2 H2 σ cls od ex s (er1.mono s.ok ex) q
  | ok o S2 =>
    rw [hm] at p1
    dsimp only [R.st] at p1
    rintro φ2 H2 y e2 ⟨s2, r2⟩
    have er2 := er1.mono s2.ok e2
    refine ⟨env, S2, φ2, ψ, er2, s2, ?_⟩
    cases hm2 : mi env S2 with
    | stuck => rw [hm2] at p1; exact p1.elim
    | err x S3 => rw [hm2] at p1; exact fun φ3 H3 cls od ex s q => p1 φ3 H3 σ cls od (e2.trans ex) s (er2.mono s.ok ex) q
    | ok k S3 =>
      rw [hm2] at p1
      rintro φ3 H3 z e3 ⟨s3, r3⟩
      have er3 := er2.mono s3.ok e3
      have rv := Rep.mono s3.ok e3 _ _ (Rep.mono s2.ok e2 _ _ r1)
      have ro := Rep.mono s3.ok e3 _ _ r2
      dsimp only at p1
      split at p1
      · rename_i n k'
        split at p1
        · rename_i ds hS
          split at p1
          · rename_i j hj
            simp only [Rep] at ro r3
            obtain ⟨a, rfl, ha⟩ := ro
            subst r3
            obtain ⟨xs, g1, g2⟩ := s3.obj n a _ ha hS
            obtain ⟨e4, s4⟩ := s3.put ha hS (g2.set j rv)
            refine ⟨a, xs, k', j, rfl, rfl, g1, by rw [← g2.length]; exact hj, ?_⟩
            exact p1 φ3 _ σ ((e2.trans e3).trans e4) s4 (er3.mono s4.ok e4)
          · exact p1.elim
        · exact p1.elim
      · exact p1.elim
end
end DL
end

section
set_option Elab.async false
set_option linter.all false
set_option maxRecDepth 100000
set_option maxHeartbeats 1000000
/-! DL, part 7: defs and calls. -/
namespace DL
open PySem PySem.Spec PyProof.Rows L2
abbrev Fn := Sto → List D → R D

/-! ### no numbers of objects from n on -/
mutual
def lowD (n : Nat) : D → Bool
  | .non => true
  | .bl _ => true
  | .int _ => true
  | .str _ => true
  | .tup ds => lowL n ds
  | .lst ds => lowL n ds
  | .scr ds => lowL n ds
  | .dic _ ds => lowL n ds
  | .exc _ v => lowD n v
  | .fn _ => true
  | .clo _ _ => false
  | .ref m => decide (m < n)
def lowL (n : Nat) : List D → Bool
  | [] => true
  | d :: ds => lowD n d && lowL n ds
end
def mapO (g : D → Option D) : List D → Option (List D)
  | [] => some []
  | d :: ds => match g d, mapO g ds with
    | some a, some b => some (a :: b)
    | _, _ => none
/-- the objects from n on are as they are from here on -/
def frzD (S : Sto) (n : Nat) : Nat → D → Option D
  | 0, _ => none
  | f + 1, d => if lowD n d = true then some d else match d with
    | .ref m => match S[m]? with
      | some (.lst ds) => (mapO (frzD S n f) ds).map D.lst
      | none => none
    | .tup ds => (mapO (frzD S n f) ds).map D.tup
    | .lst ds => (mapO (frzD S n f) ds).map D.lst
    | .exc c v => (frzD S n f v).map (D.exc c)
    | _ => none
/-- two maps that agree on made functions below 1000 (those from 1000 on are known to the frame that made them alone) -/
structure Mp.Agr (M1 M2 : Mp) : Prop where
  K : M1.K = M2.K
  fa : M1.fa = M2.fa
  ca : M1.ca = M2.ca
  tabs : M1.tabs = M2.tabs
  clo : ∀ k H f xs, k < 1000 → (M1.clo k H f xs ↔ M2.clo k H f xs)
theorem Mp.Agr.refl (M : Mp) : M.Agr M := ⟨rfl, rfl, rfl, rfl, fun _ _ _ _ _ => .rfl⟩
theorem Mp.Agr.symm {M1 M2 : Mp} (h : M1.Agr M2) : M2.Agr M1 := ⟨h.K.symm, h.fa.symm, h.ca.symm, h.tabs.symm, fun k H f xs hk => (h.clo k H f xs hk).symm⟩
section
variable {M1 M2 : Mp} {φ φ' ψ ψ' : List Addr} {H : Hp}
mutual
theorem Rep.low (g : M1.Agr M2) {n : Nat} (hψ : ∀ a, a ∉ φ → a ∉ ψ → a ∉ φ' ∧ a ∉ ψ') (hn : ∀ (i : Nat) (a : Addr), i < n → φ[i]? = some a → φ'[i]? = some a) : ∀ (d : D) (v : V), lowD n d = true → Rep M1 φ ψ H d v → Rep M2 φ' ψ' H d v
  | .non, v, _, h => by simpa only [Rep] using h
  | .bl b, v, _, h => by simpa only [Rep] using h
  | .int i, v, _, h => by simpa only [Rep] using h
  | .str s, v, _, h => by simpa only [Rep] using h
  | .tup ds, v, l, h => by
    simp only [Rep] at h ⊢
    simp only [lowD] at l
    obtain ⟨a, xs, rfl, h1, h2⟩ := h
    exact ⟨a, xs, rfl, by rw [← g.K]; exact h1, RepL.low g hψ hn ds xs l h2⟩
  | .lst ds, v, l, h => by
    simp only [Rep] at h ⊢
    simp only [lowD] at l
    obtain ⟨a, xs, rfl, h1, h2, h3, h4⟩ := h
    exact ⟨a, xs, rfl, (hψ a h1 h2).1, (hψ a h1 h2).2, h3, RepL.low g hψ hn ds xs l h4⟩
  | .scr ds, v, l, h => by
    simp only [Rep] at h ⊢
    simp only [lowD] at l
    obtain ⟨a, xs, rfl, h1, h2⟩ := h
    exact ⟨a, xs, rfl, by rw [← g.K]; exact h1, RepL.low g hψ hn ds xs l h2⟩
  | .dic ks ds, v, l, h => by
    simp only [Rep] at h ⊢
    simp only [lowD] at l
    obtain ⟨a, xs, rfl, h1, h2, h3, h5, h4⟩ := h
    exact ⟨a, xs, rfl, (hψ a h1 h2).1, (hψ a h1 h2).2, h3, h5, RepL.low g hψ hn ds xs l h4⟩
  | .exc c w, v, l, h => by
    simp only [Rep] at h ⊢
    simp only [lowD] at l
    obtain ⟨a, d, x, rfl, h1, h2, h3⟩ := h
    exact ⟨a, d, x, rfl, by rw [← g.ca]; exact h1, h2, Rep.low g hψ hn w x l h3⟩
  | .fn k, v, _, h => by
    simp only [Rep] at h ⊢
    rw [← g.fa]; exact h
  | .clo k ds, v, l, h => by
    simp [lowD] at l
  | .ref m, v, l, h => by
    simp only [Rep] at h ⊢
    simp only [lowD, decide_eq_true_eq] at l
    obtain ⟨a, rfl, h1⟩ := h
    exact ⟨a, rfl, hn m a l h1⟩
theorem RepL.low (g : M1.Agr M2) {n : Nat} (hψ : ∀ a, a ∉ φ → a ∉ ψ → a ∉ φ' ∧ a ∉ ψ') (hn : ∀ (i : Nat) (a : Addr), i < n → φ[i]? = some a → φ'[i]? = some a) : ∀ (ds : List D) (vs : List V), lowL n ds = true → RepL M1 φ ψ H ds vs → RepL M2 φ' ψ' H ds vs
  | [], vs, _, h => by simpa only [RepL] using h
  | d :: ds, vs, l, h => by
    simp only [RepL] at h ⊢
    simp only [lowL, Bool.and_eq_true] at l
    obtain ⟨x, xs, rfl, h1, h2⟩ := h
    exact ⟨x, xs, rfl, Rep.low g hψ hn d x l.1 h1, RepL.low g hψ hn ds xs l.2 h2⟩
end
end
section
variable {M : Mp} {φ χ ψ ψ' : List Addr} {H : Hp}
theorem low_out : ∀ a, a ∉ φ ++ χ → a ∉ ψ → a ∉ φ ∧ a ∉ ψ := fun a h1 h2 => ⟨fun hm => h1 (List.mem_append_left _ hm), h2⟩
theorem low_in : ∀ (i : Nat) (a : Addr), i < φ.length → (φ ++ χ)[i]? = some a → φ[i]? = some a := fun i a hi h => by rw [List.getElem?_append_left hi] at h; exact h
theorem mapO_rep {M' : Mp} {φ' ψ'' : List Addr} {H' : Hp} {g : D → Option D} (hg : ∀ d d' v, g d = some d' → Rep M φ ψ H d v → Rep M' φ' ψ'' H' d' v) : ∀ {ds ds' : List D} {vs : List V}, mapO g ds = some ds' → RepL M φ ψ H ds vs → RepL M' φ' ψ'' H' ds' vs
  | [], ds', vs, h, r => by
    simp only [mapO, Option.some.injEq] at h
    subst h
    simp only [RepL] at r ⊢
    exact r
  | d :: ds, ds', vs, h, r => by
    simp only [mapO] at h
    split at h
    · rename_i a b e1 e2
      cases h
      simp only [RepL] at r ⊢
      obtain ⟨x, xs, rfl, r1, r2⟩ := r
      exact ⟨x, xs, rfl, hg _ _ _ e1 r1, mapO_rep hg e2 r2⟩
    · cases h
theorem frz_rep {S : Sto} (s : SRel M (φ ++ χ) ψ S H) : ∀ (f : Nat) (d d' : D) (v : V), frzD S φ.length f d = some d' → Rep M (φ ++ χ) ψ H d v → Rep M φ ψ H d' v
  | 0, d, d', v, h, r => by simp [frzD] at h
  | f + 1, d, d', v, h, r => by
    unfold frzD at h
    split at h
    · rename_i hl
      cases h
      exact Rep.low (.refl M) low_out low_in d v hl r
    · rename_i hl
      split at h
      · rename_i m
        split at h
        · rename_i ds hS
          obtain ⟨ds', e1, rfl⟩ := Option.map_eq_some_iff.mp h
          simp only [Rep] at r ⊢
          obtain ⟨a, rfl, ha⟩ := r
          obtain ⟨xs, g1, g2⟩ := s.obj m a _ ha hS
          simp only [lowD, decide_eq_true_eq] at hl
          refine ⟨a, xs, rfl, fun hm => ?_, s.dis a (List.mem_of_getElem? ha), g1, mapO_rep (fun d d' v => frz_rep s f d d' v) e1 g2⟩
          obtain ⟨i, hi, e⟩ := List.mem_iff_getElem.mp hm
          have h1 : (φ ++ χ)[i]? = some a := by rw [List.getElem?_append_left hi, List.getElem?_eq_getElem hi, e]
          obtain ⟨l1, q1⟩ := List.getElem?_eq_some_iff.mp h1
          obtain ⟨l2, q2⟩ := List.getElem?_eq_some_iff.mp ha
          have : i = m := (List.getElem_inj s.nd).mp (q1.trans q2.symm)
          omega
        · cases h
      · rename_i ds
        obtain ⟨ds', e1, rfl⟩ := Option.map_eq_some_iff.mp h
        simp only [Rep] at r ⊢
        obtain ⟨a, xs, rfl, h1, h2⟩ := r
        exact ⟨a, xs, rfl, h1, mapO_rep (fun d d' v => frz_rep s f d d' v) e1 h2⟩
      · rename_i ds
        obtain ⟨ds', e1, rfl⟩ := Option.map_eq_some_iff.mp h
        simp only [Rep] at r ⊢
        obtain ⟨a, xs, rfl, h1, h2, h3, h4⟩ := r
        exact ⟨a, xs, rfl, fun hm => h1 (List.mem_append_left _ hm), h2, h3, mapO_rep (fun d d' v => frz_rep s f d d' v) e1 h4⟩
      · rename_i c w
        obtain ⟨w', e1, rfl⟩ := Option.map_eq_some_iff.mp h
        simp only [Rep] at r ⊢
        obtain ⟨a, d, x, rfl, h1, h2, h3⟩ := r
        exact ⟨a, d, x, rfl, h1, h2, frz_rep s f w w' x e1 h3⟩
      · cases h
theorem frz_repX {S : Sto} (s : SRel M (φ ++ χ) ψ S H) {f : Nat} {d d' : D} {cls : Value} {od : Option Addr} (h : frzD S φ.length f d = some d') (r : RepX M (φ ++ χ) ψ H d cls od) : RepX M φ ψ H d' cls od := by
  cases d <;> try exact r.elim
  case exc c w =>
    obtain ⟨h1, dd, x, h2, h3, h4⟩ := r
    cases f with
    | zero => simp [frzD] at h
    | succ f =>
      unfold frzD at h
      split at h
      · rename_i hl
        cases h
        simp only [lowD] at hl
        exact ⟨h1, dd, x, h2, h3, Rep.low (.refl M) low_out low_in w x hl h4⟩
      · simp only at h
        obtain ⟨w', e1, rfl⟩ := Option.map_eq_some_iff.mp h
        exact ⟨h1, dd, x, h2, h3, frz_rep s f w w' x e1 h4⟩
end

/-! ### what a def does: by its body; on its own; as a part of what is there -/
def bodyM (n : Nat) (b : FM) : Fn := fun S ds => match b (ds.map some ++ List.replicate (n - ds.length) none) S with
  | .nx _ S1 => .ok .non S1
  | .rt d S1 => .ok d S1
  | .er x _ S1 => .err x S1
  | _ => .stuck
def lowO (n : Nat) : O → Bool
  | .lst ds => lowL n ds
def refsOf : List D → List Nat
  | [] => []
  | .ref n :: ds => if n ∈ refsOf ds then refsOf ds else n :: refsOf ds
  | _ :: ds => refsOf ds
/-- what may be handed on at the top: an object, a made function -/
def isRef : D → Bool
  | .ref _ => true
  | .clo k es => decide (k < 1000) && lowL 0 es
  | _ => false
def renum (ns : List Nat) : D → D
  | .ref n => .ref (ns.findIdx (· == n))
  | d => d
def getO (S : Sto) : List Nat → Option Sto
  | [] => some []
  | n :: ns => match S[n]?, getO S ns with
    | some o, some os => some (o :: os)
    | _, _ => none
def putO (S : Sto) : List Nat → Sto → Sto
  | n :: ns, o :: os => putO (S.set n o) ns os
  | _, _ => S
/-- handed on: an object, low data, a made function -/
def argL (d : D) : Bool := isRef d || lowD 0 d
/-- .. no made function -/
def argN : D → Bool
  | .ref _ => true
  | d => lowD 0 d
/-- a def runs on the objects that it is handed alone; what it makes is let go -/
def subK (ok : D → Bool) (f : Fn) : Fn := fun S ds => match getO S (refsOf ds) with
  | none => .stuck
  | some os => if (os.all (lowO 0) && ds.all ok) = true then match f os (ds.map (renum (refsOf ds))) with
      | .ok d S1 => if (S1.take (refsOf ds).length).all (lowO 0) = true then match frzD S1 (refsOf ds).length 9 d with
          | some d' => if lowD 0 d' = true then .ok d' (putO S (refsOf ds) (S1.take (refsOf ds).length)) else .stuck
          | none => .stuck
        else .stuck
      | .err d S1 => if (S1.take (refsOf ds).length).all (lowO 0) = true then match frzD S1 (refsOf ds).length 9 d with
          | some d' => if lowD 0 d' = true then .err d' (putO S (refsOf ds) (S1.take (refsOf ds).length)) else .stuck
          | none => .stuck
        else .stuck
      | .stuck => .stuck
    else .stuck
abbrev subM : Fn → Fn := subK argL
def spM (M : Mp) (n : Nat) (f : Fn) : Sp := fun vs H Q E => ∃ ds S φ ψ, ds.length = n ∧ RepL M φ ψ H ds vs ∧ SRel M φ ψ S H ∧ Post (rpD M ψ) φ H (f S ds) Q E
theorem spM.len {M : Mp} {n : Nat} {f : Fn} {vs : List V} {H : Hp} {Q : VK} {E : XK} (h : spM M n f vs H Q E) : vs.length = n := by
  obtain ⟨ds, S, φ, ψ, h1, h2, _⟩ := h
  rw [← h2.length, h1]
section
variable {M : Mp} {n : Nat} {f : Fn} {vs : List V} {H : Hp} {Q : VK} {E : XK}
theorem Ext.of_nil {φ φ' : List Addr} {H H' : Hp} (e : Ext [] H φ' H') : Ext φ H φ H' := ⟨⟨[], by simp, by simp⟩, fun b o h _ t => e.keep b o h (by simp) t, e.imm, e.dom⟩
theorem Ext.cut {φ χ : List Addr} {H H' : Hp} (e : Ext φ H (φ ++ χ) H') : Ext φ H φ H' := ⟨⟨[], by simp, by simp⟩, e.keep, e.imm, e.dom⟩
/-- some of our objects -/
theorem getO_some {S : Sto} : ∀ {ns : List Nat} {os : Sto}, getO S ns = some os → os.length = ns.length ∧ ∀ (i n : Nat), ns[i]? = some n → os[i]? = S[n]? ∧ n < S.length
  | [], os, h => by
    simp only [getO, Option.some.injEq] at h
    subst h
    exact ⟨rfl, fun i n hi => by simp at hi⟩
  | m :: ns, os, h => by
    simp only [getO] at h
    split at h
    · rename_i o os' e1 e2
      cases h
      obtain ⟨l, k⟩ := getO_some e2
      refine ⟨by simp [l], fun i n hi => ?_⟩
      cases i with
      | zero =>
        simp at hi
        subst hi
        exact ⟨by simp [e1], (List.getElem?_eq_some_iff.mp e1).1⟩
      | succ i => simpa using k i n (by simpa using hi)
    · cases h
theorem putO_len {S : Sto} : ∀ {ns : List Nat} {os : Sto}, (putO S ns os).length = S.length
  | [], os => by simp [putO]
  | n :: ns, [] => by simp [putO]
  | n :: ns, o :: os => by simp only [putO]; rw [putO_len]; simp
theorem putO_out {S : Sto} {m : Nat} : ∀ {ns : List Nat} {os : Sto}, m ∉ ns → (putO S ns os)[m]? = S[m]?
  | [], os, _ => by simp [putO]
  | n :: ns, [], _ => by simp [putO]
  | n :: ns, o :: os, h => by
    simp only [List.mem_cons, not_or] at h
    simp only [putO]
    rw [putO_out h.2, List.getElem?_set_ne (Ne.symm h.1)]
theorem putO_in {S : Sto} : ∀ {ns : List Nat} {os : Sto} {i n : Nat}, ns.Nodup → os.length = ns.length → n < S.length → ns[i]? = some n → (putO S ns os)[n]? = os[i]?
  | [], os, i, n, _, _, _, h => by simp at h
  | m :: ns, [], i, n, _, hl, _, h => by simp at hl
  | m :: ns, o :: os, 0, n, hd, hl, hs, h => by
    simp at h
    subst h
    simp only [putO]
    rw [putO_out (List.nodup_cons.mp hd).1, List.getElem?_set_self hs]
    rfl
  | m :: ns, o :: os, i + 1, n, hd, hl, hs, h => by
    simp only [putO]
    rw [putO_in (S := S.set m o) (List.nodup_cons.mp hd).2 (by simpa using hl) (by simpa using hs) (by simpa using h)]
    simp
theorem refsOf_nodup : ∀ ds : List D, (refsOf ds).Nodup
  | [] => by simp [refsOf]
  | d :: ds => by
    cases d <;> simp only [refsOf] <;> try exact refsOf_nodup ds
    split
    · exact refsOf_nodup ds
    · rename_i n h
      exact List.nodup_cons.mpr ⟨h, refsOf_nodup ds⟩
theorem refsOf_mem {n : Nat} : ∀ {ds : List D}, D.ref n ∈ ds → n ∈ refsOf ds
  | d :: ds, h => by
    rcases List.mem_cons.mp h with z | z
    · subst z
      simp only [refsOf]
      split
      · assumption
      · exact List.mem_cons_self
    · have := refsOf_mem z
      cases d <;> simp only [refsOf] <;> try exact this
      split
      · exact this
      · exact List.mem_cons_of_mem _ this
theorem findIdx_get {n : Nat} : ∀ {ns : List Nat}, n ∈ ns → ns[ns.findIdx (· == n)]? = some n
  | m :: ns, h => by
    rw [List.findIdx_cons]
    by_cases e : m = n
    · subst e; simp
    · have h' : n ∈ ns := by
        rcases List.mem_cons.mp h with z | z
        · exact absurd z.symm e
        · exact z
      have q : (m == n) = false := by simpa using e
      simp only [q, cond_false, List.getElem?_cons_succ]
      exact findIdx_get h'
/-- the addresses of the objects ns -/
def adds (φ : List Addr) (ns : List Nat) : List Addr := ns.filterMap fun n => φ[n]?
theorem adds_get {φ : List Addr} : ∀ {ns : List Nat}, (∀ n ∈ ns, n < φ.length) → (adds φ ns).length = ns.length ∧ ∀ i : Nat, (adds φ ns)[i]? = ns[i]?.bind fun n => φ[n]?
  | [], _ => by simp [adds]
  | n :: ns, h => by
    obtain ⟨l, k⟩ := adds_get (φ := φ) (ns := ns) fun m hm => h m (List.mem_cons_of_mem _ hm)
    have hlt : n < φ.length := h n List.mem_cons_self
    have hn : φ[n]? = some φ[n] := List.getElem?_eq_getElem hlt
    have e : adds φ (n :: ns) = φ[n] :: adds φ ns := by unfold adds; rw [List.filterMap_cons, hn]
    refine ⟨by rw [e]; simp [l], fun i => ?_⟩
    rw [e]
    cases i with
    | zero => simp [hn]
    | succ i => simpa using k i
theorem subM_rep {M1 M2 : Mp} (g : M1.Agr M2) {φ φ' ψ ψ' : List Addr} {H : Hp} {ns : List Nat} (hψ : ∀ a, a ∉ φ → a ∉ ψ → a ∉ φ' ∧ a ∉ ψ') (hns : ∀ n ∈ ns, n < φ.length) (hφ : φ' = adds φ ns) : ∀ {ds : List D} {vs : List V}, (∀ n, D.ref n ∈ ds → n ∈ ns) → (ds.all argL) = true →
    RepL M1 φ ψ H ds vs → RepL M2 φ' ψ' H (ds.map (renum ns)) vs
  | [], vs, _, _, r => by simpa only [RepL, List.map_nil] using r
  | d :: ds, vs, hm, hl, r => by
    simp only [RepL] at r
    obtain ⟨x, xs, rfl, r1, r2⟩ := r
    simp only [List.all_cons, Bool.and_eq_true, argL] at hl
    have r2' := subM_rep g hψ hns hφ (ds := ds) (fun n h => hm n (List.mem_cons_of_mem _ h)) hl.2 r2
    have key : Rep M2 φ' ψ' H (renum ns d) x := by
      have low : lowD 0 d = true → Rep M2 φ' ψ' H d x := fun h => Rep.low g (n := 0) hψ (fun i a hi => absurd hi (Nat.not_lt_zero i)) d x h r1
      cases d <;> simp only [renum, isRef, Bool.false_or, Bool.true_or] at hl ⊢ <;> try exact low hl.1
      case clo k es =>
        simp only [lowD, Bool.or_false, Bool.and_eq_true, decide_eq_true_eq] at hl
        simp only [Rep] at r1 ⊢
        obtain ⟨f, ys, rfl, q1, q2⟩ := r1
        exact ⟨f, ys, rfl, (g.clo k H f ys hl.1.1).mp q1, RepL.low g (n := 0) hψ (fun i a hi => absurd hi (Nat.not_lt_zero i)) es ys hl.1.2 q2⟩
      case ref n =>
        simp only [Rep] at r1 ⊢
        obtain ⟨a, rfl, ha⟩ := r1
        refine ⟨a, rfl, ?_⟩
        rw [hφ, (adds_get hns).2, findIdx_get (hm n List.mem_cons_self)]
        exact ha
    simp only [List.map_cons]
    exact .cons key r2'
/-- .. of low objects, of arguments as ok tells -/
def spL (M : Mp) (ok : D → Bool) (n : Nat) (f : Fn) : Sp := fun vs H Q E => ∃ ds S φ ψ, ds.all ok = true ∧ S.all (lowO 0) = true ∧ ds.length = n ∧ RepL M φ ψ H ds vs ∧ SRel M φ ψ S H ∧ Post (rpD M ψ) φ H (f S ds) Q E
theorem spL.m {M : Mp} {ok : D → Bool} (h : spL M ok n f vs H Q E) : spM M n f vs H Q E := by
  obtain ⟨ds, S, φ, ψ, _, _, h⟩ := h
  exact ⟨ds, S, φ, ψ, h⟩
theorem renum_ok {ok : D → Bool} (hr : ∀ n, ok (.ref n) = true) (ns : List Nat) : ∀ {ds : List D}, ds.all ok = true → (ds.map (renum ns)).all ok = true
  | [], _ => rfl
  | d :: ds, h => by
    simp only [List.all_cons, Bool.and_eq_true, List.map_cons] at h ⊢
    refine ⟨?_, renum_ok hr ns h.2⟩
    cases d <;> simp only [renum] <;> first | exact h.1 | exact hr _
theorem spM.subL {ok : D → Bool} {M1 M2 : Mp} (ho : ∀ d, ok d = true → argL d = true) (hr : ∀ n, ok (.ref n) = true) (g : M1.Agr M2) (ok2 : M2.Ok) (h : spM M1 n (subK ok f) vs H Q E) : spL M2 ok n f vs H Q E := by
  obtain ⟨ds, S, φ, ψ, h1, r, s, p⟩ := h
  unfold subK at p
  cases hg : getO S (refsOf ds) with
  | none => rw [hg] at p; exact p.elim
  | some os =>
  rw [hg] at p
  dsimp only at p
  split at p
  · rename_i hl
    simp only [Bool.and_eq_true] at hl
    have hlA : ds.all argL = true := List.all_eq_true.mpr fun d hd => ho d (List.all_eq_true.mp hl.2 d hd)
    obtain ⟨lo, k⟩ := getO_some hg
    generalize hns : refsOf ds = ns at *
    have nd : ns.Nodup := by rw [← hns]; exact refsOf_nodup ds
    have lt : ∀ m ∈ ns, m < φ.length := fun m hm => by
      obtain ⟨i, hi, e⟩ := List.mem_iff_getElem.mp hm
      have := (k i m (by rw [List.getElem?_eq_getElem hi, e])).2
      rw [s.len]; exact this
    obtain ⟨al, ag⟩ := adds_get lt
    have amem : ∀ a, a ∈ adds φ ns → a ∈ φ := fun a ha => by
      unfold adds at ha
      obtain ⟨m, _, e⟩ := List.mem_filterMap.mp ha
      exact List.mem_of_getElem? e
    -- the objects that are not handed on are to be avoided
    generalize hψs : ψ ++ φ.filter (fun a => decide (a ∉ adds φ ns)) = ψs
    have out : ∀ a, a ∉ φ → a ∉ ψ → a ∉ adds φ ns ∧ a ∉ ψs := fun a h1 h2 => ⟨fun hm => h1 (amem a hm), fun hm => by
      rw [← hψs] at hm
      rcases List.mem_append.mp hm with z | z
      · exact h2 z
      · exact h1 (List.mem_filter.mp z).1⟩
    have back : ∀ a, a ∉ adds φ ns → a ∉ ψs → a ∉ φ ∧ a ∉ ψ := fun a h1 h2 => by
      rw [← hψs] at h2
      simp only [List.mem_append, List.mem_filter, decide_eq_true_eq, not_or, not_and] at h2
      exact ⟨fun hm => h2.2 hm h1, h2.1⟩
    have andup : (adds φ ns).Nodup := by
      refine List.pairwise_iff_getElem.mpr fun i j hi hj hij e0 => ?_
      have e : (adds φ ns)[i]? = (adds φ ns)[j]? := by rw [List.getElem?_eq_getElem hi, List.getElem?_eq_getElem hj, e0]
      rw [ag, ag] at e
      have hj' : j < ns.length := by rw [al] at hj; exact hj
      rw [List.getElem?_eq_getElem (by omega : i < ns.length), List.getElem?_eq_getElem hj'] at e
      simp only [Option.bind_some] at e
      have l1 := lt _ (List.getElem_mem (by omega : i < ns.length))
      have l2 := lt _ (List.getElem_mem hj')
      rw [List.getElem?_eq_getElem l1, List.getElem?_eq_getElem l2] at e
      have e2 := (List.getElem_inj s.nd).mp (Option.some.inj e)
      have e3 := (List.getElem_inj nd).mp e2
      omega
    have r' : RepL M2 (adds φ ns) ψs H (ds.map (renum ns)) vs := subM_rep g out lt rfl (fun m hm => by rw [← hns]; exact refsOf_mem hm) hlA r
    have s' : SRel M2 (adds φ ns) ψs os H := by
      refine ⟨by rw [al, lo], andup, fun a ha hm => ?_, fun a ha => ?_, fun i a o e1 e2 => ?_, by rw [← g.tabs]; exact s.tabs, ok2⟩
      · rw [← hψs] at hm
        rcases List.mem_append.mp hm with z | z
        · exact s.dis a (amem a ha) z
        · have := (List.mem_filter.mp z).2
          simp only [decide_eq_true_eq] at this
          exact this ha
      · rw [← hψs] at ha
        rcases List.mem_append.mp ha with z | z
        · exact s.av a z
        · obtain ⟨m, o, _, _, ro⟩ := s.mem (List.mem_filter.mp z).1
          obtain ⟨u, hu, hi, ht, _⟩ := ro.mut
          exact ⟨u, hu, ht, by cases u <;> first | rfl | cases hi⟩
      · rw [ag] at e1
        cases hi : ns[i]? with
        | none => rw [hi] at e1; cases e1
        | some m =>
          rw [hi] at e1
          rw [(k i m hi).1] at e2
          have ro := s.obj m a o e1 e2
          have lw : lowO 0 o = true := List.all_eq_true.mp hl.1 o (List.mem_of_getElem? (i := i) (by rw [(k i m hi).1]; exact e2))
          cases o with
          | lst es =>
            obtain ⟨xs, g1, g2⟩ := ro
            exact ⟨xs, g1, RepL.low g (n := 0) out (fun i a hi => absurd hi (Nat.not_lt_zero i)) _ _ lw g2⟩
    refine ⟨_, os, adds φ ns, ψs, renum_ok hr ns hl.2, hl.1, by rw [List.length_map]; exact h1, r', s', ?_⟩
    have fin : ∀ {φ' : List Addr} {S1 : Sto} {H' : Hp}, (S1.take ns.length).all (lowO 0) = true → Ext (adds φ ns) H φ' H' → SRel M2 φ' ψs S1 H' → ∃ χ, φ' = adds φ ns ++ χ ∧ Ext φ H φ H' ∧ SRel M1 φ ψ (putO S ns (S1.take ns.length)) H' := fun {φ' S1 H'} hlo e sr => by
      obtain ⟨χ, rfl, hχ⟩ := e.pre
      have e' : Ext φ H φ H' := ⟨⟨[], by simp, by simp⟩, fun b o h1 h2 h3 => e.keep b o h1 (fun hm => h2 (amem b hm)) h3, e.imm, e.dom⟩
      have l1 : (S1.take ns.length).length = ns.length := by
        have := sr.len
        rw [List.length_append, al] at this
        rw [List.length_take]
        omega
      refine ⟨χ, rfl, e', by rw [putO_len]; exact s.len, s.nd, s.dis, fun a ha => let ⟨u, q1, q2⟩ := s.av a ha; ⟨u, e'.keep a u q1 (fun hm => s.dis a hm ha) q2.1, q2⟩, fun m a o h1 h2 => ?_, by rw [g.tabs]; exact sr.tabs, s.ok⟩
      by_cases hm : m ∈ ns
      · obtain ⟨i, hi, em⟩ := List.mem_iff_getElem.mp hm
        have ei : ns[i]? = some m := by rw [List.getElem?_eq_getElem hi, em]
        rw [putO_in nd l1 (k i m ei).2 ei] at h2
        have lw : lowO 0 o = true := List.all_eq_true.mp hlo o (List.mem_of_getElem? h2)
        rw [List.getElem?_take_of_lt hi] at h2
        have ea : (adds φ ns ++ χ)[i]? = some a := by
          rw [List.getElem?_append_left (by rw [al]; exact hi), ag, ei]
          exact h1
        have ro := sr.obj i a o ea h2
        cases o with
        | lst es =>
          obtain ⟨xs, g1, g2⟩ := ro
          refine ⟨xs, g1, RepL.low g.symm (n := 0) (fun b hb1 hb2 => back b (fun hm => hb1 (List.mem_append_left _ hm)) hb2) (fun i a hi => absurd hi (Nat.not_lt_zero i)) _ _ lw g2⟩
      · rw [putO_out hm] at h2
        have ro := s.obj m a o h1 h2
        obtain ⟨u, hu, _, ht, _⟩ := ro.mut
        refine ro.mono s.ok e' fun w hw => ?_
        rw [hu] at hw
        cases hw
        refine e.keep a _ hu (fun ha => hm ?_) ht
        obtain ⟨i, hi, ei⟩ := List.mem_iff_getElem.mp ha
        have e1 : (adds φ ns)[i]? = some a := by rw [List.getElem?_eq_getElem hi, ei]
        rw [ag] at e1
        cases hn : ns[i]? with
        | none => rw [hn] at e1; cases e1
        | some m' =>
          rw [hn] at e1
          have e1' : φ[m']? = some a := e1
          obtain ⟨p1, q1⟩ := List.getElem?_eq_some_iff.mp e1'
          obtain ⟨p2, q2⟩ := List.getElem?_eq_some_iff.mp h1
          have : m' = m := (List.getElem_inj s.nd).mp (q1.trans q2.symm)
          rw [← this]
          exact List.mem_of_getElem? hn
    have down : ∀ {φ' ψ'' : List Addr} {H' : Hp} {d : D} {v : V}, lowD 0 d = true → Rep M2 (adds φ ns) ψs H' d v → Rep M1 φ ψ H' d v := fun {φ' ψ'' H' d v} hlow => Rep.low g.symm (n := 0) back (fun i a hi => absurd hi (Nat.not_lt_zero i)) d v hlow
    cases hf : f os (ds.map (renum ns)) with
    | stuck => rw [hf] at p; exact p
    | ok d S1 =>
      rw [hf] at p
      dsimp only at p
      split at p
      · rename_i hlo
        rintro φ' H' v e ⟨s1, r1⟩
        cases hz : frzD S1 ns.length 9 d with
        | none => rw [hz] at p; exact p.elim
        | some d' =>
          rw [hz] at p
          dsimp only at p
          split at p
          · rename_i hlow
            obtain ⟨χ, rfl, b1, b2⟩ := fin hlo e s1
            exact p φ H' v b1 ⟨b2, down (φ' := φ) (ψ'' := ψ) hlow (frz_rep s1 9 d d' v (by rw [al]; exact hz) r1)⟩
          · exact p.elim
      · exact p.elim
    | err x S1 =>
      rw [hf] at p
      dsimp only at p
      split at p
      · rename_i hlo
        rintro φ' H' cls od e s1 r1
        cases hz : frzD S1 ns.length 9 x with
        | none => rw [hz] at p; exact p.elim
        | some d' =>
          rw [hz] at p
          dsimp only at p
          split at p
          · rename_i hlow
            obtain ⟨χ, rfl, b1, b2⟩ := fin hlo e s1
            refine p φ H' cls od b1 b2 ?_
            have q := frz_repX s1 (by rw [al]; exact hz) r1
            cases d' <;> try exact q.elim
            obtain ⟨q1, dd, y, q2, q3, q4⟩ := q
            simp only [lowD] at hlow
            exact ⟨by rw [g.ca]; exact q1, dd, y, q2, q3, down (φ' := φ) (ψ'' := ψ) hlow q4⟩
          · exact p.elim
      · exact p.elim
  · exact p.elim
theorem spM.sub {M1 M2 : Mp} (g : M1.Agr M2) (ok2 : M2.Ok) (h : spM M1 n (subM f) vs H Q E) : spM M2 n f vs H Q E := (spM.subL (fun _ h => h) (fun _ => rfl) g ok2 h).m
end

/-! ### a body's context -/
/-- what a derivation asks of its context -/
structure Bd (X : Cx) (W : WX) (k : Nat) : Prop where
  room : Room k X.A
  tk : L2.Takes X W
  calm : X.calm = true
  nd : X.N.Nodup
theorem Bd.blk {X : Cx} {W : WX} {k : Nat} (B : Bd X W k) (s : Shared) (H : Hp) (scope : Scope) (cenv : Env) (fp : List Addr) : Bd (X.blk s H scope cenv fp) W0 k := ⟨B.room, L2.takes0, B.calm, B.nd⟩
theorem Bd.at_ {X : Cx} {W : WX} {k j : Nat} (B : Bd X W k) (h : j ≤ k) : Room j X.A := B.room.mono h
theorem Bd.units {X : Cx} {W : WX} {k : Nat} (B : Bd X W k) : X.A.units + 64 < cLine := B.room.units
abbrev Own (X : Cx) : Prop := PassesOwn (model X.prog X.w) X.A X.env X.xe
def wE (E : XK) : WX := fun cls d _ H => E cls d H
theorem ERel.start {M : Mp} {φ ψ : List Addr} {H : Hp} {ds : List D} {vs : List V} {N : List Str} (r : RepL M φ ψ H ds vs) : ERel M φ ψ H (ds.map some ++ List.replicate (N.length - ds.length) none) (L2.start N vs) := by
  have hl := r.length
  refine ⟨by unfold L2.start; simp [hl], fun i d h => ?_⟩
  unfold L2.start
  by_cases hi : i < ds.length
  · rw [List.getElem?_append_left (by simpa using hi), List.getElem?_map] at h
    rw [List.getElem?_append_left (by simp; omega), List.getElem?_map]
    cases e : ds[i]? with
    | none => rw [e] at h; cases h
    | some d' =>
      rw [e] at h
      cases h
      obtain ⟨v, hv, rv⟩ := r.get e
      exact ⟨v, by rw [hv]; rfl, rv⟩
  · rw [List.getElem?_append_right (by simpa using hi), List.getElem?_replicate] at h
    split at h <;> cases h
section
variable {P : Program} {w : World} {M : Mp} {mg : Str → Option Value} {base : Heap} {N ps : List Str} {k : Nat} {m : FM} {x : Str} {st : Stmt} {fa : Addr} {fd : FuncData}
abbrev FnD (K : PySem.W.Frag) (x : Str) (st : Stmt) (fa : Addr) (fd : FuncData) : Prop := FunD K x x (C8.fnArgs st) (C8.fnBody st) (C8.fnScope st) [] [] fa fd
/-- THE RULE for a def -/
theorem fn_dl (F : FunD M.K x x (C8.fnArgs st) (C8.fnBody st) (C8.fnScope st) [] [] fa fd) (S : FnScope N ps (C8.fnScope st))
    (hb : ∀ (X : Cx) (cdv : Value) (A : Around) (outer : List Env) (s : Shared) (H : Hp) (E : XK), X = cxOf (L2.CX P w) P w M.K mg base N x (C8.fnScope st) fa cdv A outer s H E → Bd (cxOf (L2.CX P w) P w M.K mg base N x (C8.fnScope st) fa cdv A outer s H E) (wE E) k → Own (cxOf (L2.CX P w) P w M.K mg base N x (C8.fnScope st) fa cdv A outer s H E) →
      DSs (cxOf (L2.CX P w) P w M.K mg base N x (C8.fnScope st) fa cdv A outer s H E) M (wE E) (C8.fnBody st) m) : FnOk P w M.K mg base (L2.CX P w) (k + 1) fa fd ps (spM M ps.length (bodyM N.length m)) := by
  refine F.ok S (fun vs H Q E h => h.len) (fun cdv A outer s H vs Q E hr h => ⟨_, hb _ cdv A outer s H E rfl ⟨hr, ?_, rfl, S.nd⟩ ?_, ?_⟩)
  · exact L2.takes_of (E := E) rfl rfl rfl rfl
  · exact L2.passes_of rfl
  · obtain ⟨ds, S, φ, ψ, h1, r, sr, p⟩ := h
    refine ⟨_, S, φ, ψ, ERel.start r, sr, ?_⟩
    unfold bodyM at p
    cases hm : m (ds.map some ++ List.replicate (N.length - ds.length) none) S with
    | nx env1 S1 => rw [hm] at p; exact fun φ' H' σ' e s1 _ => p φ' H' .non e ⟨s1, by simp only [Rep]⟩
    | rt d S1 => rw [hm] at p; exact fun φ' H' v e s1 r1 => p φ' H' v e ⟨s1, r1⟩
    | bk env1 S1 => rw [hm] at p; exact p.elim
    | ct env1 S1 => rw [hm] at p; exact p.elim
    | er x env1 S1 => rw [hm] at p; exact fun φ' H' σ' cls od e s1 _ rx => p φ' H' cls od e s1 rx
    | stuck => rw [hm] at p; exact p.elim

/-- a def of the text that keeps its promise, to be called by its name -/
structure FOk (P : Program) (w : World) (M : Mp) (mg : Str → Option Value) (base : Heap) (k : Nat) (x : Str) (st : Stmt) (ps : List Str) (f : Fn) : Prop where
  ex : ∃ fa fd, FnD M.K x st fa fd ∧ FnOk P w M.K mg base (L2.CX P w) k fa fd ps (spM M ps.length f) ∧ mg x = some (.ref fa) ∧ Binds M.K fd ps []
theorem FOk.mono {j : Nat} {f : Fn} (h : FOk P w M mg base j x st ps f) (hk : j ≤ k) : FOk P w M mg base k x st ps f := by
  obtain ⟨fa, fd, h1, h2, h3⟩ := h.ex
  exact ⟨fa, fd, h1, h2.mono hk, h3⟩
theorem FOk.sub {f : Fn} (h : FOk P w M mg base k x st ps f) (ok : M.Ok) : FOk P w M mg base k x st ps (subM f) := by
  obtain ⟨fa, fd, h1, h2, h3⟩ := h.ex
  exact ⟨fa, fd, h1, h2.imp fun vs H Q E q => q.sub (.refl M) ok, h3⟩
/-- in a frame that knows more made functions -/
theorem FOk.wide {f : Fn} {M' : Mp} (h : FOk P w M mg base k x st ps f) (g : M'.Agr M) (ok : M.Ok) : FOk P w M' mg base k x st ps (subM f) := by
  obtain ⟨fa, fd, h1, h2, h3, h4⟩ := h.ex
  exact ⟨fa, fd, by rw [g.K]; exact h1, by rw [g.K]; exact h2.imp fun vs H Q E q => q.sub g ok, h3, by rw [g.K]; exact h4⟩
end

/-! ### calls -/
/-- so many arguments -/
def LenM (ms : En → Sto → R (List D)) (n : Nat) : Prop := ∀ env S ds S1, ms env S = .ok ds S1 → ds.length = n
theorem lenM_nil : LenM nilM 0 := fun env S ds S1 h => by
  simp only [nilM, R.ok.injEq] at h
  rw [← h.1]; rfl
theorem lenM_cons {m : En → Sto → R D} {ms : En → Sto → R (List D)} {n : Nat} (h : LenM ms n) : LenM (consM m ms) (n + 1) := fun env S ds S1 e => by
  unfold consM at e
  cases h1 : m env S with
  | ok d S2 =>
    rw [h1] at e
    simp only [DL.R.bind_ok] at e
    cases h2 : ms env S2 with
    | ok es S3 =>
      rw [h2] at e
      simp only [DL.R.bind_ok, R.ok.injEq] at e
      rw [← e.1]
      simp [h env S2 es S3 h2]
    | err y S3 => rw [h2] at e; cases e
    | stuck => rw [h2] at e; cases e
  | err y S2 => rw [h1] at e; cases e
  | stuck => rw [h1] at e; cases e
section
variable {X : Cx} {M : Mp} {W : WX} {x : Str} {p pos : Pos} {e : Expr} {es : List Expr} {ms : En → Sto → R (List D)} {k j : Nat} {st : Stmt} {ps : List Str} {f : Fn}
/-- f(e, ..) -/
theorem de_call (B : Bd X W k) (F : FOk X.prog X.w M X.mg X.base j x st ps f) (ha : DA X M W (e :: es) ms) (hj : j ≤ k := by first | decide | omega) (hg : Gl X x := by rfl) (hK : X.K = M.K := by rfl) (hl : LenM ms ps.length := by repeat first | exact lenM_nil | apply lenM_cons)
    (hdb : (x == ("__debug__" : Str)) = false := by decide) (he : starEach (e :: es) X.env = (false, eval e X.env) :: starEach es X.env := by rfl) (hpl : (backTo pos (starEach es X.env)).any (·.1) = false := by rfl) :
    DE X M W (.Call (.Name x p) (e :: es) [] pos) (callM f ms) := by
  obtain ⟨fa, fd, h1, h2, h3, h4⟩ := F.ex
  refine pe_imp (pe_callS (E := WE W) (by rw [hK]; exact h2) (B.at_ hj) hg h3 (by rw [hK]; exact h1.kp) (by rw [hK]; exact h4) (fun σ => passAt B.tk σ) ha hdb he hpl) fun σ H Q h => ?_
  obtain ⟨env, S, φ, ψ, er, sr, q⟩ := h
  refine ⟨env, S, φ, ψ, er, sr, ?_⟩
  unfold callM at q
  cases hm : ms env S with
  | stuck => rw [hm] at q; exact q
  | err y S1 => rw [hm] at q; exact q
  | ok ds S1 =>
    rw [hm] at q
    rintro φ1 H1 vs e1 ⟨s1, r1⟩
    exact ⟨ds, S1, φ1, ψ, hl env S ds S1 hm, r1, s1, Post.ext q e1⟩
end
end DL
end

section
set_option Elab.async false
set_option linter.all false
set_option maxRecDepth 100000
set_option maxHeartbeats 1000000
/-! DL, part 8: short forms for printed derivations. -/
namespace DL
open PySem PySem.Spec PyProof.Rows L2
section
variable {X : Cx} {M : Mp} {W : WX} {x : Str} {p pos : Pos} {a b c e : Expr} {es : List Expr} {ma mb mc m : En → Sto → R D} {ms : En → Sto → R (List D)}
theorem de_alt {m1 m2 : En → Sto → R D} (h1 : DE X M W e m1) (h2 : DE X M W e m2) (h : ∀ env S, m env S = m1 env S ∨ m env S = m2 env S) : DE X M W e m := by
  refine ⟨fun pins s σ H Q I ⟨env, S, φ, ψ, er, sr, p⟩ => ?_⟩
  rcases h env S with q | q
  · exact h1.run pins s σ H Q I ⟨env, S, φ, ψ, er, sr, by rw [← q]; exact p⟩
  · exact h2.run pins s σ H Q I ⟨env, S, φ, ψ, er, sr, by rw [← q]; exact p⟩
theorem de_o {op : Operator} {g : Sto → D → D → R D} (h : ∃ r, OpR X (binaryOp op) r ∧ Op2 M r g) (ha : DE X M W a ma) (hb : DE X M W b mb) : DE X M W (.BinOp a op b pos) (op2M g ma mb) := by
  obtain ⟨r, h1, h2⟩ := h
  exact de_op h1 h2 ha hb
/-- + of ints, texts, tuples, lists -/
def addA (S : Sto) (d e : D) : R D := match asX S d, asX S e with
  | some ds, some es => if ds.length + es.length ≤ sizeLine then .ok (.lst (ds ++ es)) S else .stuck
  | _, _ => addG S d e
theorem de_add (ha : DE X M W a ma) (hb : DE X M W b mb) (hK : X.K = M.K := by rfl) : DE X M W (.BinOp a .Add b pos) (op2M addA ma mb) := by
  refine de_alt (DF.frz (df_cat ha hb)) (de_o (op_addG hK) ha hb) fun env S => ?_
  unfold op2M frzM catM
  cases h1 : ma env S with
  | ok d S1 =>
    simp only [DL.R.bind_ok]
    cases h2 : mb env S1 with
    | ok e S2 =>
      simp only [DL.R.bind_ok]
      unfold addA
      cases h3 : asX S2 d with
      | none => exact .inr rfl
      | some ds =>
        cases h4 : asX S2 e with
        | none => exact .inr rfl
        | some es =>
          refine .inl ?_
          simp only
          split <;> rfl
    | err y S2 => exact .inl rfl
    | stuck => exact .inl rfl
  | err y S1 => exact .inl rfl
  | stuck => exact .inl rfl
theorem de_c {op : CmpOp} {g : Sto → D → D → R Bool} (h : ∃ r, OpR X (compareOp op) r ∧ Cm2 M r g) (ha : DE X M W a ma) (hb : DE X M W b mb) (hm : behindInMarks op b = false := by rfl) : DE X M W (.Compare a [op] [b] pos) (valM (cmpB g ma mb)) := by
  obtain ⟨r, h1, h2⟩ := h
  exact de_cmp h1 h2 ha hb hm
theorem dt_c {op : CmpOp} {g : Sto → D → D → R Bool} (h : ∃ r, OpR X (compareOp op) r ∧ Cm2 M r g) (ha : DE X M W a ma) (hb : DE X M W b mb) (hm : behindInMarks op b = false := by rfl) : DT X M W (.Compare a [op] [b] pos) (cmpB g ma mb) := by
  obtain ⟨r, h1, h2⟩ := h
  exact dt_cmp h1 h2 ha hb hm
theorem de_ch {op op' : CmpOp} {g g' : Sto → D → D → R Bool} (h : ∃ r, OpR X (compareOp op) r ∧ Cm2 M r g) (h' : ∃ r, OpR X (compareOp op') r ∧ Cm2 M r g') (ha : DE X M W a ma) (hb : DE X M W b mb) (hc : DE X M W c mc) (hm : lastMarks [op, op'] [b, c] = false := by rfl) : DE X M W (.Compare a [op, op'] [b, c] pos) (valM (chB g g' ma mb mc)) := by
  obtain ⟨r, h1, h2⟩ := h
  obtain ⟨r', h1', h2'⟩ := h'
  exact de_chain h1 h2 h1' h2' ha hb hc hm
theorem dt_ch {op op' : CmpOp} {g g' : Sto → D → D → R Bool} (h : ∃ r, OpR X (compareOp op) r ∧ Cm2 M r g) (h' : ∃ r, OpR X (compareOp op') r ∧ Cm2 M r g') (ha : DE X M W a ma) (hb : DE X M W b mb) (hc : DE X M W c mc) (hm : lastMarks [op, op'] [b, c] = false := by rfl) : DT X M W (.Compare a [op, op'] [b, c] pos) (chB g g' ma mb mc) := by
  obtain ⟨r, h1, h2⟩ := h
  obtain ⟨r', h1', h2'⟩ := h'
  exact dt_chain h1 h2 h1' h2' ha hb hc hm
theorem de_b {id : String} {g : Sto → List D → R D} (h : ∃ r, CallR X (.builtin id) r ∧ Call1 M r g) (hm : X.mg x = none) (hv : bootBuiltins x = some (.builtin id)) (ha : DA X M W (e :: es) ms) (hg : Gl X x := by rfl) (hn : x ≠ "__name__" := by decide) (hdb : (x == ("__debug__" : Str)) = false := by decide)
    (he : starEach (e :: es) X.env = (false, eval e X.env) :: starEach es X.env := by rfl) (hpl : (backTo pos (starEach es X.env)).any (·.1) = false := by rfl) : DE X M W (.Call (.Name x p) (e :: es) [] pos) (callM g ms) := by
  obtain ⟨r, h1, h2⟩ := h
  exact de_bf h1 h2 hm hv ha hg hn hdb he hpl
theorem de_t {id : String} {g : Sto → List D → R D} (h : ∃ r, CallR X (.type id) r ∧ Call1 M r g) (hm : X.mg x = none) (hv : bootBuiltins x = some (.type id)) (ha : DA X M W (e :: es) ms) (hg : Gl X x := by rfl) (hn : x ≠ "__name__" := by decide) (hdb : (x == ("__debug__" : Str)) = false := by decide)
    (he : starEach (e :: es) X.env = (false, eval e X.env) :: starEach es X.env := by rfl) (hpl : (backTo pos (starEach es X.env)).any (·.1) = false := by rfl) : DE X M W (.Call (.Name x p) (e :: es) [] pos) (callM g ms) := by
  obtain ⟨r, h1, h2⟩ := h
  exact de_bt h1 h2 hm hv ha hg hn hdb he hpl
theorem df_b {id : String} {g : Sto → List D → R (List D)} (h : ∃ r, CallR X (.builtin id) r ∧ CallF M r g) (hm : X.mg x = none) (hv : bootBuiltins x = some (.builtin id)) (ha : DA X M W (e :: es) ms) (hg : Gl X x := by rfl) (hn : x ≠ "__name__" := by decide) (hdb : (x == ("__debug__" : Str)) = false := by decide)
    (he : starEach (e :: es) X.env = (false, eval e X.env) :: starEach es X.env := by rfl) (hpl : (backTo pos (starEach es X.env)).any (·.1) = false := by rfl) : DF X M W (.Call (.Name x p) (e :: es) [] pos) (callM g ms) := by
  obtain ⟨r, h1, h2⟩ := h
  exact df_bf h1 h2 hm hv ha hg hn hdb he hpl
theorem df_t {id : String} {g : Sto → List D → R (List D)} (h : ∃ r, CallR X (.type id) r ∧ CallF M r g) (hm : X.mg x = none) (hv : bootBuiltins x = some (.type id)) (ha : DA X M W (e :: es) ms) (hg : Gl X x := by rfl) (hn : x ≠ "__name__" := by decide) (hdb : (x == ("__debug__" : Str)) = false := by decide)
    (he : starEach (e :: es) X.env = (false, eval e X.env) :: starEach es X.env := by rfl) (hpl : (backTo pos (starEach es X.env)).any (·.1) = false := by rfl) : DF X M W (.Call (.Name x p) (e :: es) [] pos) (callM g ms) := by
  obtain ⟨r, h1, h2⟩ := h
  exact df_bt h1 h2 hm hv ha hg hn hdb he hpl
/-- a test by its value as an expression -/
theorem de_tst (h : DE X M W a m) (hK : X.K = M.K := by rfl) (he : ∀ whole, isTrue a X.env whole = (do let v ← whole; standAt a.pos; holding [v] (truthy v)) := by intro _; rfl) : DT X M W a (tstM m) := dt_val h hK he
/-- -e -/
def negM (m : En → Sto → R D) : En → Sto → R D := fun env S => (m env S).bind fun d S1 => match d with
  | .int i => .ok (.int (-i)) S1
  | _ => .stuck
theorem de_neg (h : DE X M W a m) : DE X M W (.UnaryOp .USub a pos) (negM m) := by
  refine pe_imp (pe_un un_neg h) fun σ H Q h => ?_
  refine rd_bindD h _ fun env φ1 ψ d v S1 H1 er sr r p => ?_
  split at p
  · simp only [Rep] at r; subst r
    exact ⟨_, rfl, p.retD sr (by simp only [Rep])⟩
  · exact p.elim
/-! ### comprehensions, with what their blocks may lean on -/
theorem df_lcB {k : Nat} {elt tg iter : Expr} {ifs : List Expr} {scope : Scope} (own : List (Str × Nat)) {mi : En → Sto → R Wk} {is : List Nat} {g : TG} {T : D → Option (List D)} {mt : En → Sto → R Bool} {me : En → Sto → R D}
    (B : Bd X W k) (hi : DI X M W tg iter mi) (ok : blkC X.N X.env.scope scope own = true) (hT : Tg M is g T) (his : ∀ i ∈ is, i ∈ own.map (·.2))
    (hg : ∀ (s : Shared) (H : Hp) (C : Addr) (cl : List (Str × Addr)) (fp : List Addr), Bd (X.blk s H scope (compEnvC scope cl C X.env) fp) W0 k → PG (X.blk s H scope (compEnvC scope cl C X.env) fp) tg g)
    (ht : ∀ (s : Shared) (H : Hp) (C : Addr) (cl : List (Str × Addr)) (fp : List Addr), Bd (X.blk s H scope (compEnvC scope cl C X.env) fp) W0 k → DTs (X.blk s H scope (compEnvC scope cl C X.env) fp) M W0 ifs mt)
    (he : ∀ (s : Shared) (H : Hp) (C : Addr) (cl : List (Str × Addr)) (fp : List Addr), Bd (X.blk s H scope (compEnvC scope cl C X.env) fp) W0 k → DE (X.blk s H scope (compEnvC scope cl C X.env) fp) M W0 elt me)
    (hs : ∀ x, foldedSetIterable iter X.env x = pure x := by intro _; rfl) :
    DF X M W (.ListComp elt [⟨tg, iter, ifs, 0⟩] scope pos) (lcM mi (own.map (·.2)) is T mt me) :=
  df_lc B.calm B.nd hi (blkOk_by ok) hT his (fun s H C cl fp => hg s H C cl fp (B.blk s H _ _ fp)) (fun s H C cl fp => ht s H C cl fp (B.blk s H _ _ fp)) (fun s H C cl fp => he s H C cl fp (B.blk s H _ _ fp)) hs
theorem ds_lcB {k : Nat} (i : Nat) {x : Str} {py spos p1 : Pos} {elt tg iter : Expr} {ifs : List Expr} {scope : Scope} (own : List (Str × Nat)) {mi : En → Sto → R Wk} {is : List Nat} {g : TG} {T : D → Option (List D)} {mt : En → Sto → R Bool} {me : En → Sto → R D} {fz : (En → Sto → R (List D)) → En → Sto → R D}
    (hz : ∀ {ml : En → Sto → R (List D)} {σ : L2.St} {H : Hp} {Q : VK}, rdD M W (fz ml) σ H Q → rdF M W ml σ H Q) (B : Bd X W k) (hi : DI X M W tg iter mi) (ok : blkC X.N X.env.scope scope own = true) (hT : Tg M is g T) (his : ∀ i ∈ is, i ∈ own.map (·.2))
    (hg : ∀ (s : Shared) (H : Hp) (C : Addr) (cl : List (Str × Addr)) (fp : List Addr), Bd (X.blk s H scope (compEnvC scope cl C X.env) fp) W0 k → PG (X.blk s H scope (compEnvC scope cl C X.env) fp) tg g)
    (ht : ∀ (s : Shared) (H : Hp) (C : Addr) (cl : List (Str × Addr)) (fp : List Addr), Bd (X.blk s H scope (compEnvC scope cl C X.env) fp) W0 k → DTs (X.blk s H scope (compEnvC scope cl C X.env) fp) M W0 ifs mt)
    (he : ∀ (s : Shared) (H : Hp) (C : Addr) (cl : List (Str × Addr)) (fp : List Addr), Bd (X.blk s H scope (compEnvC scope cl C X.env) fp) W0 k → DE (X.blk s H scope (compEnvC scope cl C X.env) fp) M W0 elt me)
    (hx : X.N[i]? = some x := by rfl) (hl : X.env.scope.names.lookup x = some .local := by rfl)
    (hsw : swapsWith (.ListComp elt [⟨tg, iter, ifs, 0⟩] scope p1) (some (.Name x py)) spos.line X.env = pure true := by first | exact sw_true rfl rfl rfl rfl | rfl)
    (hs : ∀ x, foldedSetIterable iter X.env x = pure x := by intro _; rfl) :
    DS X M W (.Assign [.Name x py] (.ListComp elt [⟨tg, iter, ifs, 0⟩] scope p1) spos) (setM i (fz (lcM mi (own.map (·.2)) is T mt me))) :=
  ds_setLc i hz B.calm B.nd hi (blkOk_by ok) hT his (fun s H C cl fp => hg s H C cl fp (B.blk s H _ _ fp)) (fun s H C cl fp => ht s H C cl fp (B.blk s H _ _ fp)) (fun s H C cl fp => he s H C cl fp (B.blk s H _ _ fp)) hx hl hsw hs
end
end DL
end

section
set_option Elab.async false
set_option linter.all false
set_option maxRecDepth 100000
set_option maxHeartbeats 2000000
/-! DL, part 9: own exceptions: the class at D over ValueError says super().__init__(value) and self.value = value. -/
namespace DL
open PySem PySem.Spec PyProof.Rows L2
open PySem.W (Frag ksFn ksEnv)
open PySem.Calls

/-- what the written part says of the class at C whose __init__ is that of the class at D -/
structure IniC (K : Frag) (D C : Addr) : Prop where
  oex : OexC K C
  mroD : PySem.W.mroIn K C (.ref D) = some true
  sup : PySem.W.ks_superIn K C D "__init__" = some (some (.builtin "ValueError.__init__"))
  ve : PySem.W.subIn K (.ref C) (.type "ValueError") = some true
  ini : PySem.W.excInitIn K C [.type "ValueError", .type "Exception", .type "BaseException", .type "object"] "ValueError.__new__" = true
  no : PySem.W.findIn K (.ref C) "value" = some none
/-- .. and of that __init__ -/
structure IniF (K : Frag) (prog : Program) (D fI : Addr) (fd : FuncData) : Prop where
  ex : ∃ (oc : Value) (od : Option Addr) (osl : Array (Option Value)) (qual : Str) (params : Arguments) (body : List Stmt) (scope : Scope) (dV kV doc pm ct : Value) (an : Option Addr) (cda cc : Addr) (p0 p1 p2 p3 p4 p5 p6 p7 p8 p9 : Pos) (ar : Arg)
      (ccl cl : Value) (cdd cld : Option Addr) (vs : Array Value) (ccs csl : Array (Option Value)) (file : Str) (tf : Tok) (cdD : ClassData),
    fd = ksFn "__init__" qual params body scope dV kV doc pm an (.ref cda) ct cc ∧ K.lookup fI = some ⟨oc, od, .func fd, osl⟩ ∧ PySem.W.codeIn K (.ref cda) qual = true ∧
    body = [.Expr (.Call (.Attribute (.Call (.Name "super" p0) [] [] p1) "__init__" p2) [.Name "value" p3] [] p4) p5, .Assign [.Attribute (.Name "self" p6) "value" p7] (.Name "value" p8) p9] ∧
    (p2.endLine == p4.line) = true ∧ (params.posonlyargs ++ params.args).head? = some ar ∧ ar.arg = "self" ∧
    scope.kind = .function ∧ scope.isCoroutine = false ∧ scope.isGenerator = false ∧ (∀ x ∈ scope.names, x.2 ≠ .cell) ∧ scope.names.lookup ("self" : Str) = some .local ∧ scope.names.lookup ("value" : Str) = some .local ∧
    scope.names.lookup ("super" : Str) = some .globalImplicit ∧ scope.names.lookup ("__class__" : Str) = some .free ∧
    K.lookup cda = some ⟨ccl, cdd, .fields vs, ccs⟩ ∧ vs[2]? = some (.str file tf) ∧ ((prog.main.file : Str) == file) = true ∧ K.lookup cc = some ⟨cl, cld, .cell (some (.ref D)), csl⟩ ∧ PySem.W.clsIn K D = some cdD
  sup : PySem.W.nsIn K mainGlobals "super" = some none
  opa : PySem.W.nsIn K cStatics "thirdparty.any" = some none
  top : (prog.main.scope.names.lookup ("super" : Str)).isSome = false
  bind : ∀ us : List Value, us.length = 2 → bindArgs fd ⟨us, []⟩ = pure ((["self", "value"] : List Str).zip us)

theorem boot_super' : bootBuiltins "super" = some (.type "super") := by decide +kernel
section
variable {P : Program} {w : World} {A : Around} {K : Frag} {D C fI e : Addr} {fd : FuncData} {s : Shared} {u : Value} {t0 : Addr} {R : Result → Shared → Prop} {mg mb : Str → Option Value}
theorem gi_run (I : IniF K P D fI fd) (T : IniC K D C) (X : K.In s.heap) (hg : s.heap.Ns mainGlobals mg) (hb : s.heap.Ns builtinsNs mb) (hbs : mb "super" = some (.type "super")) (lim : s.heap.NoLimit) (room : A.depth < recursionLimit)
    {args : Args} (hbind : BindsTo s fd args [(("self" : Str), .ref e), (("value" : Str), u)]) (he : s.heap.get? e = some (HandSPX.excO C t0)) (hKe : K.lookup e = none) (hmg : mg "super" = none)
    (hR : ∀ h' tk dx t1, (∀ b o, b ≠ e → s.heap.get? b = some o → h'.get? b = some o) → s.heap.objs.size ≤ dx → dx ≠ e → h'.get? e = some { cls := .ref C, dict := some dx, data := .fields #[.ref t1, .none, .none, .none, .bool false, .none] } →
      h'.Ns1 dx (fun y => if y = "value" then some u else none) → R (.ok (.ret .none)) { s with heap := h', toks := tk }) :
    codeAny (model P w) A (.call (.ref fI) args) R s := by
  obtain ⟨oc, od, osl, qual, params, body, scope, dV, kV, doc, pm, ct, an, cda, cc, p0, p1, p2, p3, p4, p5, p6, p7, p8, p9, ar, ccl, cl, cdd, cld, vs, ccs, csl, file, tf, cdD, rfl, lk, hcd, hbody, hline, har, harg, hk, hco, hgen, hnc, hself, hval, hsup, hcls, hcode, hvs, hfile, hcell, hD⟩ := I.ex
  refine ks_codeAny_call_defAt (fd := ksFn "__init__" qual params body scope dV kV doc pm an (.ref cda) ct cc) (body := body) (binds := [(("self" : Str), .ref e), (("value" : Str), u)]) room (X _ _ lk) rfl lim (PySem.W.codeRec_of X hcd) rfl hbind hnc (fun x hx => ?_) (fun h₁ hns hk₁ => ?_) hco hgen hk
  · rcases List.mem_cons.mp hx with z | z
    · subst z; exact hself
    · have z' : x = (("value" : Str), u) := by simpa using z
      subst z'; exact hval
  -- the frame's names
  have L : ∃ m : Str → Option Value, h₁.Ns s.heap.objs.size m ∧ m "self" = some (.ref e) ∧ m "value" = some u := ⟨_, hns, rfl, rfl⟩
  obtain ⟨m, hns, mself, mval⟩ := L
  show _root_.PySem.wpAt _ _ _ (execs body (ksEnv qual scope s.heap.objs.size fI (.ref cda) cc)) _ _ _
  subst hbody
  have X1 : K.In h₁ := X.keeps hk₁
  have he1 := hk₁ _ _ he
  have I1 : PySem.W.InstAt h₁ e (HandSPX.excO C t0) C none := ⟨he1, rfl, rfl, trivial⟩
  obtain ⟨hp, g, d, t, os⟩ := s
  obtain ⟨oD, hD1, hD2⟩ : ∃ oD, h₁.get? D = some oD ∧ oD.data = .cls cdD := by
    unfold PySem.W.clsIn at hD
    split at hD
    · rename_i c d cd' sl ho
      cases hD
      exact ⟨_, X1 _ _ ho, rfl⟩
    · cases hD
  have hint : interactive (ksEnv qual scope hp.objs.size fI (.ref cda) cc) = false := by
    show interactive _ = false
    simp [interactive, hk]
  have self_ : ∀ {A1 : Around} {h2 : Heap} {t2 : Tok} {pos : Pos} {Q : Value → Shared → Prop} {E : Value → Shared → Prop}, h2.Ns hp.objs.size m → Q (.ref e) ⟨h2, g, d, t2, os⟩ → wpAny (model P w) A1 (eval (.Name "self" pos) (ksEnv qual scope hp.objs.size fI (.ref cda) cc)) Q E ⟨h2, g, d, t2, os⟩ := fun {A1 h2 t2 pos Q E} hn q =>
    wpAny_Name (wpAny_loadName_local hk hself hn mself q) (by decide)
  have value_ : ∀ {A1 : Around} {h2 : Heap} {t2 : Tok} {pos : Pos} {Q : Value → Shared → Prop} {E : Value → Shared → Prop}, h2.Ns hp.objs.size m → Q u ⟨h2, g, d, t2, os⟩ → wpAny (model P w) A1 (eval (.Name "value" pos) (ksEnv qual scope hp.objs.size fI (.ref cda) cc)) Q E ⟨h2, g, d, t2, os⟩ := fun {A1 h2 t2 pos Q E} hn q =>
    wpAny_Name (wpAny_loadName_local hk hval hn mval q) (by decide)
  have hev : ∀ env : Env, eval (.Call (.Attribute (.Call (.Name "super" p0) [] [] p1) "__init__" p2) [.Name "value" p3] [] p4) env = (do
      let ov ← attributeBase (.Call (.Name "super" p0) [] [] p1) "__init__" env (eval (.Call (.Name "super" p0) [] [] p1) env)
      standAt p2.atName
      let (f, first) ← holding [ov] (getMethod ov "__init__" (plainOf (.Call (.Name "super" p0) [] [] p1) env))
      callWith p4 f first (backTo p4 (starEach [.Name "value" p3] env)) []) := fun env => by
    have q : ∀ ov, methodCall (.Call (.Name "super" p0) [] [] p1) "__init__" p2 p4 env ov 1 (backTo p4 (starEach [.Name "value" p3] env)) [] = _ := fun ov => mcall_line rfl hline
    show (do
      let ov ← attributeBase (.Call (.Name "super" p0) [] [] p1) "__init__" env (eval (.Call (.Name "super" p0) [] [] p1) env)
      standAt p2.atName
      methodCall (.Call (.Name "super" p0) [] [] p1) "__init__" p2 p4 env ov 1 (backTo p4 (starEach [.Name "value" p3] env)) []) = _
    simp only [q]
  refine ks_wpAt_execs_cons (ks_wpAt_Expr_any (ks_wpAt_MethodCall (pl := plainOf (.Call (.Name "super" p0) [] [] p1) (ksEnv qual scope hp.objs.size fI (.ref cda) cc)) ?_ (hev _)) hint rfl)
  refine ks_wpAt_super_base (env := ksEnv qual scope hp.objs.size fI (.ref cda) cc) hsup hcls (by decide) rfl (X1 _ _ lk) rfl har rfl (X1 _ _ hcode) rfl hvs hfile I.top ?_
  refine PySem.W.ks_loadName_global hk hsup (loadGlobal_builtin (env := ksEnv qual scope hp.objs.size fI (.ref cda) cc) (hg.keeps hk₁) hmg (hb.keeps hk₁) hbs ⟨rfl, ?_⟩)
  refine wpAny_loadName_free hk hcls rfl ⟨_, X1 _ _ hcell, rfl⟩ ?_
  rw [harg]
  refine wpAny_loadName_local hk hself hns mself ?_
  refine ks_wpAny_isType_cls hD1 hD2 ⟨rfl, ?_⟩
  refine ks_wpAny_call_super hD1 hD2 I1.at_ I1.cls (fun c e => ?_) (PySem.W.looks_mroIn X1 T.mroD) (fun h2 hso k2 => ?_)
  · cases e
  have X2 : K.In h2 := X1.keeps k2
  have he2 := k2 _ _ he1
  have hns2 : h2.Ns hp.objs.size m := hns.keeps k2
  have I2 : PySem.W.InstAt h2 e (HandSPX.excO C t0) C none := ⟨he2, rfl, rfl, trivial⟩
  have hsup2 := T.sup
  cases hc : PySem.W.clsIn K C with
  | none => unfold PySem.W.ks_superIn at hsup2; rw [hc] at hsup2; cases hsup2
  | some cd =>
  unfold PySem.W.ks_superIn at hsup2
  rw [hc] at hsup2
  have hI : PySem.W.Looks (model P w) h2 (isInstance (.ref e) (.type "ValueError")) true := I2.type.andThen (PySem.W.looks_subIn X2 T.ve)
  refine PySem.W.kxs_getMethod PySem.W.kxs_ValueError hso (PySem.W.looks_opaque X2 I.opa) (l₀ := cd.mro) (fun A Q E s k q => wpAny_bind ((PySem.W.looks_clsIn X2 hc) A _ E s k (wpAny_pure q))) rfl X2 hsup2 hI (PySem.W.ks_ne X2 I2 hc) (by decide) ?_
  -- the bound __init__ is called
  refine PySem.W.kxs_callWith (i := "ValueError.__init__") (x := e) rfl (evalArgs_plain (spliced_cons ?_))
  show wpAny (model P w) _ (eval (.Name "value" p3) (ksEnv qual scope hp.objs.size fI (.ref cda) cc)) _ _ _
  refine value_ (hns2.keeps fun b o z => Heap.get?_push_of_some _ z) ?_
  show wpAny _ _ (spliced []) _ _ _
  refine spliced_nil ⟨Heap.get?_push_size _ rfl, ?_⟩
  show wpAny _ _ (call (.ref h2.objs.size) [u]) _ _ _
  have heL : e ≠ hp.objs.size := Nat.ne_of_lt (Heap.lt_size he)
  generalize h3e : h2.push (PySem.W.kxs_mw "ValueError.__init__" e) = h3
  have k3 : ∀ b o, h2.get? b = some o → h3.get? b = some o := fun b o z => by rw [← h3e]; exact Heap.get?_push_of_some _ z
  have hmw : h3.get? h2.objs.size = some (PySem.W.kxs_mw "ValueError.__init__" e) := by rw [← h3e]; exact Heap.get?_push_size _ rfl
  have kAll : ∀ b o, hp.get? b = some o → h3.get? b = some o := fun b o z => k3 b o (k2 b o (hk₁ b o z))
  have hG : ∀ b o, (PySem.W.hideAll hp [e]).get? b = some o → h3.get? b = some o := fun b o z => kAll b o (PySem.W.of_hideAll _ z)
  have sz2 : hp.objs.size ≤ h2.objs.size := by
    obtain ⟨oL, _, _, z, _⟩ := id hns2
    exact Nat.le_of_lt (Heap.lt_size z)
  have F3 : Fr (PySem.W.hideAll hp [e]) hp.objs.size h3 m := ⟨hns2.keeps k3, hG, Nat.le_of_eq (PySem.W.hideAll_size _ _)⟩
  have XG : K.In (PySem.W.hideAll hp [e]) := fun b o z => PySem.W.hideAll_get _ (X b o z) (by
    intro hm
    have hb : b = e := by simpa using hm
    rw [hb] at z
    have z' : K.lookup e = some o := z
    rw [hKe] at z'
    cases z')
  have out : ∀ b, hp.objs.size ≤ b → (PySem.W.hideAll hp [e]).get? b = none := fun b hb => by
    cases z : (PySem.W.hideAll hp [e]).get? b with
    | none => rfl
    | some o => exact absurd (Heap.lt_size (PySem.W.of_hideAll _ z)) (Nat.not_lt.mpr hb)
  have ne2 : h2.objs.size ≠ hp.objs.size := fun z => by
    obtain ⟨oL, _, _, y, _⟩ := id hns2
    have y2 := Heap.lt_size y
    rw [z] at y2
    exact Nat.lt_irrefl _ y2
  have N3 : News (PySem.W.hideAll hp [e]) hp.objs.size h3 [(h2.objs.size, PySem.W.kxs_mw "ValueError.__init__" e), (e, PySem.W.excObj C t0 none .none)] := fun p hp' => by
    rcases List.mem_cons.mp hp' with z | z
    · subst z; exact ⟨hmw, ne2, out _ sz2⟩
    · have z' : p = (e, PySem.W.excObj C t0 none .none) := by simpa using z
      subst z'
      exact ⟨k3 _ _ he2, heL, PySem.W.hideAll_none _ (by simp)⟩
  have ne3 : h2.objs.size ≠ e := fun z => absurd (Heap.lt_size he2) (by rw [z]; exact Nat.lt_irrefl _)
  refine PySem.W.kxs_call (x := e) (C := C) (i := "ValueError.__init__") F3 XG N3 F.excBase_ValueError T.ini List.mem_cons_self (.tail ne3 (.head (by simp))) (by show 1 ≤ sizeLine; decide) fun t1 h4 F4 N4 _ => ?_
  -- self.value = value
  have he4 : h4.get? e = some (PySem.W.excObj C t1 none .none) := (N4 (e, PySem.W.excObj C t1 none .none) (List.mem_cons_of_mem _ (List.mem_cons_of_mem _ List.mem_cons_self))).1
  have hns4 : h4.Ns hp.objs.size m := F4.ns
  have k4 : ∀ b o, b ≠ e → hp.get? b = some o → h4.get? b = some o := fun b o hb z => F4.keep b o (PySem.W.hideAll_get _ z (by simpa using hb))
  have X4 : K.In h4 := XG.keeps F4.keep
  refine ks_wpAt_execs_cons (ks_wpAt_Assign_Attr (wpAt_of_wpAny ?_) rfl)
  refine value_ hns4 (self_ hns4 ?_)
  have hcl := hc
  obtain ⟨nm, q, N, bs, bm, sn, sub, ab, col, dd, k0, k1, kk2, kk3, k5, hC, hbm⟩ := T.oex.cls
  have hcl2 : PySem.W.clsIn K C = some { name := nm, bases := bs, mro := .ref C :: bm, ns := N, qualname := q, hasDict := true, slotNames := sn, subclasses := sub, abstract := ab, collection := col, hasDel := false } := by unfold PySem.W.clsIn; rw [hC] <;> rfl
  refine PySem.W.set_plain X4 (ox := { cls := .ref C, dict := none, data := .fields #[.ref t1, .none, .none, .none, .bool false, .none] }) (od := none) ⟨he4, rfl, rfl, trivial⟩ T.oex.sa ?_
  refine PySem.HandSPX.exc_osa X4 he4 hcl2 (show PySem.HandSPX.refsVE (.ref C :: bm) = true from hbm) rfl T.no (fun h' tk' dx k dn dne hx hn => ?_)
  refine wpAt_of_wpAny (wpAny_execs_nil ?_)
  have sz4 : hp.objs.size ≤ h4.objs.size := by
    obtain ⟨oL, _, _, z, _⟩ := id hns4
    exact Nat.le_of_lt (Heap.lt_size z)
  exact hR h' tk' dx t1 (fun b o hb z => k b o hb (k4 b o hb z)) (Nat.le_trans sz4 dn) dne hx hn
end
/-- the promise of that __init__ -/
def spIni (K : Frag) (D : Addr) : Sp := fun vs H Q _ => ∃ (a C : Addr) (y : V), vs = [.ref a, y] ∧ IniC K D C ∧ H a = some (exo a C none) ∧ ∀ dx, H dx = none → dx ≠ a → Q .non (upd (upd H dx (exd dx [("value", y)])) a (exo a C (some dx)))
theorem ini_ok {P : Program} {w : World} {K : Frag} {mg : Str → Option Value} {base : Heap} {CX : CXT} {D fI : Addr} {fd : FuncData} (I : IniF K P D fI fd) (hmg : mg "super" = none) : FnOk P w K mg base CX 0 fI fd ["self", "value"] (spIni K D) := by
  refine ⟨fun vs H Q E h => ?_, fun A outer s H args us vs Q E hr e0 hb hv hsp => ?_⟩
  · obtain ⟨a, C, y, rfl, _⟩ := h
    rfl
  obtain ⟨a, C, y, rfl, T, ha, hq⟩ := hsp
  obtain ⟨mb, hmb, hbo⟩ := e0.mod.blt
  cases hv with
  | @cons _ u0 _ us' r0 rr =>
  cases rr with
  | @cons _ u _ us'' r1 rr =>
  cases rr
  obtain rfl : u0 = Value.ref a := r0
  obtain ⟨t1, he⟩ := exo_at e0.hok ha
  have bs : ∀ b o, base.get? b = some o → s.heap.get? b = some o := fun b o e => (e0.bs b o e).1
  have hKe : K.lookup a = none := by
    cases z : K.lookup a with
    | none => rfl
    | some o =>
      have n := (e0.bs a o (e0.mod.kin a o z)).2
      rw [ha] at n; cases n
  refine gi_run I T (e0.mod.kin.keeps bs) (e0.mod.glob.keeps bs) (hmb.keeps bs) (by rw [hbo "super" (by decide)]; exact boot_super') (e0.mod.nolimit.keeps bs) hr.depth hb he hKe hmg fun h' tk dx t2 k dn dne hx hn => ?_
  have hnd : H dx = none := e0.hok.fresh dn
  have nd : ∀ {b : Addr} {o : Obj}, s.heap.get? b = some o → b ≠ dx := fun {b o} q => Nat.ne_of_lt (Nat.lt_of_lt_of_le (Heap.lt_size q) dn)
  have na : ∀ {b : Addr}, H b = none → b ≠ a := fun {b} n z => by
    rw [z, ha] at n
    cases n
  refine ⟨.non, upd (upd H dx (exd dx [("value", y)])) a (exo a C (some dx)), rfl, e0.bare, ?_, ?_, rfl, hq dx hnd dne⟩
  · exact {
      keep := fun b o q n _ _ => k b o (na n) q
      slot := fun b o q n _ _ => ⟨o.slots, k b o (na n) q⟩
      free := fun b o q n _ => by rw [upd_ne (na n), upd_ne (nd q)]; exact n
      there := fun b o q _ => by
        by_cases hb : b = a
        · exact ⟨_, by rw [hb]; exact hx⟩
        · exact ⟨o, k b o hb q⟩
      tups := fun b xs q => by rw [upd_ne (at_ne ha q exo_tup), upd_ne (ne_of_none q hnd)]; exact q
      frzs := fun b o v q => by rw [upd_ne (at_ne ha q exo_frz), upd_ne (ne_of_none q hnd)]; exact q
      tbls := fun b ps q => ⟨#[], by rw [upd_ne (at_ne ha q exo_tbl), upd_ne (ne_of_none q hnd), q]; simp⟩ }
  · intro b o q
    by_cases hb : b = a
    · subst hb
      rw [upd_same] at q
      cases q
      exact exo_ok hx
    · rw [upd_ne hb] at q
      by_cases hd : b = dx
      · subst hd
        rw [upd_same] at q
        cases q
        exact exd_ok hn (relO_put (fs := []) r1 fun g => True.intro)
      · rw [upd_ne hd] at q
        exact (e0.hok b o q).stay (fun c v hc z => k c v (by
            rcases hc with hc | hc
            · rw [hc]
              exact hb
            · exact at_ne ha hc exo_own) z)
          (fun c hc => by rw [upd_ne (at_ne ha hc exo_own), upd_ne (ne_of_none hc hnd)]; exact hc) (fun c xs hc => by rw [upd_ne (at_ne ha hc exo_tup), upd_ne (ne_of_none hc hnd)]; exact hc)

/-! ### raise X(e) -/
/-- an own class by its name -/
structure ErC (M : Mp) (P : Program) (mg : Str → Option Value) (x : Str) (c : Nat) : Prop where
  ex : ∃ (D fI : Addr) (fd : FuncData), IniF M.K P D fI fd ∧ IniC M.K D (M.ca c) ∧ PySem.W.findIn M.K (.ref (M.ca c)) "__init__" = some (some (.ref fI)) ∧ PySem.W.typeIn M.K (.ref fI) = some (.type "function")
  at_ : mg x = some (.ref (M.ca c))
  sup : mg "super" = none
def raiM (c : Nat) (m : En → Sto → R D) : FM := fun env S => (m env S).st env fun d S1 => .er (.exc c d) env S1
section
variable {X : Cx} {M : Mp} {W : WX} {k c : Nat} {x : Str} {p pos pos' : Pos} {e : Expr} {m : En → Sto → R DL.D}
theorem ds_raise (B : Bd X W k) (T : ErC M X.prog X.mg x c) (h : DE X M W e m) (hk : 1 ≤ k := by first | decide | omega) (hK : X.K = M.K := by rfl) (hg : Gl X x := by rfl)
    (hdb : (x == ("__debug__" : Str)) = false := by decide) (he : starEach [e] X.env = (false, eval e X.env) :: starEach [] X.env := by rfl) (hpl : (backTo pos (starEach [] X.env)).any (·.1) = false := by rfl) :
    DS X M W (.Raise (some (.Call (.Name x p) [e] [] pos)) none pos') (raiM c m) := by
  obtain ⟨D, fI, fd, IF, IC, h1, h2⟩ := T.ex
  have F1 : FnOk X.prog X.w X.K X.mg X.base (L2.CX X.prog X.w) 0 fI fd ["self", "value"] (spIni M.K D) := by rw [hK]; exact ini_ok IF T.sup
  refine ps_imp (ps_raise B.calm B.tk (pmk_oex (ds := []) (dvs := []) (by rw [hK]; exact IC.oex) (by rw [hK]; exact h1) (by rw [hK]; exact h2) F1 (B.at_ hk) (.all IF.bind) .nil (L2.passL) hg T.at_ (pa_cons h pa_nil he) hdb he hpl)) fun E σ H h => ?_
  refine rd_stD h _ fun env φ1 ψ d v S1 H1 er sr r p => ?_
  refine ⟨by show 1 ≤ 1000; decide, fun a ha => ⟨a, M.ca c, v, rfl, IC, upd_same, fun dx hdx hne => ?_⟩⟩
  have hd1 : H1 dx = none := by rw [upd_ne hne] at hdx; exact hdx
  have nv : ∀ b, H1 b ≠ none → b ≠ a := fun b hb z => hb (z ▸ ha)
  have nx : ∀ b, H1 b ≠ none → b ≠ dx := fun b hb z => hb (z ▸ hd1)
  refine ⟨rfl, dx, [("value", v)], upd_same, by rw [upd_ne hne, upd_same], hd1, ?_⟩
  have look : ∀ b u, H1 b = some u → (upd (del (upd (upd (upd H1 a (exo a (M.ca c) none)) dx (exd dx [("value", v)])) a (exo a (M.ca c) (some dx))) a) dx (.xd [("value", v)])) b = some u := fun b u hb => by
    have hb' : H1 b ≠ none := by rw [hb]; simp
    rw [upd_ne (nx b hb'), del_ne (nv b hb'), upd_ne (nv b hb'), upd_ne (nx b hb'), upd_ne (nv b hb')]
    exact hb
  obtain ⟨ex, sx⟩ := sr.grow look
  exact p φ1 _ σ _ _ ex sx (er.mono sr.ok ex) ⟨rfl, dx, v, rfl, upd_same, Rep.mono sr.ok ex _ _ r⟩
end
end DL
end

section
set_option Elab.async false
set_option linter.all false
set_option maxRecDepth 100000
set_option maxHeartbeats 2000000
/-! DL, part 10: try .. except; what is caught is kept. -/
namespace DL
open PySem PySem.Spec PyProof.Rows L2
/-- an exception object of the class cls with the own dict d -/
def ExO (cls : Value) (d : Option Addr) (a : Addr) : HO := .ext fun h => ∃ (oe : Obj) (vs : Array Value), h.get? a = some oe ∧ oe.cls = cls ∧ oe.dict = d ∧ oe.data = .fields vs
section
variable {X : Cx} {pins : List (Addr × Obj)} {σ : L2.St} {H : Hp} {s : Shared}
/-- an exception that was caught is tracked from here on -/
theorem inv_track {a : Addr} {oe : Obj} {vs : Array Value} {cls : Value} {d : Option Addr} (I : Inv X (pins ++ [(a, oe)]) σ H s) (hz : Zc cls d oe) (hd : oe.data = .fields vs) (h0 : X.s_0.heap.get? a = none) (hp : ∀ p ∈ X.pn ++ pins, p.1 ≠ a) :
    Inv X pins σ (upd H a (ExO cls d a)) s := by
  obtain ⟨ha, na, nL, nF, nc⟩ := I.pin (a, oe) (by simp)
  have ne : ∀ {b : Addr} {o : HO}, H b = some o → b ≠ a := fun {b o} e z => by rw [z] at e; rw [na] at e; cases e
  refine ⟨I.ok, I.os, I.bare, ⟨I.base.keep, I.base.slot, fun b o e n hx => ?_, I.base.there, fun b xs e => ?_, fun b o u e => ?_, fun b ps e => ?_⟩, I.loc, I.cell, ?_, fun x c e => ?_, fun p hp' => ?_, fun b o e => ?_, I.len⟩
  · rw [upd_ne (fun z => by rw [z, h0] at e; cases e)]
    exact I.base.free b o e n hx
  · have q := I.base.tups b xs e
    rw [upd_ne (ne q)]; exact q
  · have q := I.base.frzs b o u e
    rw [upd_ne (ne q)]; exact q
  · obtain ⟨m, q⟩ := I.base.tbls b ps e
    exact ⟨m, by rw [upd_ne (ne q)]; exact q⟩
  · rw [upd_ne (Ne.symm nL)]; exact I.free
  · have hc : c ≠ a := fun z => by
      obtain ⟨v, o, e1, e2⟩ := I.cell x c e
      rw [z, ha] at e1
      cases e1
      exact nc _ e2
    rw [upd_ne hc]; exact I.freeC x c e
  · have q := I.pin p (by
      rcases List.mem_append.mp hp' with z | z
      · exact List.mem_append_left _ z
      · exact List.mem_append_right _ (List.mem_append_left _ z))
    exact ⟨q.1, by rw [upd_ne (hp p hp')]; exact q.2.1, q.2.2⟩
  · by_cases hb : b = a
    · subst hb
      rw [upd_same] at e
      cases e
      exact ⟨⟨oe, vs, ha, hz.1, hz.2, hd⟩, ⟨oe, ha⟩, fun h1 h2 ⟨oe', vs', e1, e2, e3, e4⟩ k => ⟨oe', vs', k _ e1, e2, e3, e4⟩⟩
    · rw [upd_ne hb] at e
      exact (I.hok b o e).stay (fun _ _ _ z => z) (fun c hc => by rw [upd_ne (ne hc)]; exact hc) fun c xs hc => by rw [upd_ne (ne hc)]; exact hc
/-- what the clause wishes of an exception of the body -/
def wKeep (K : PySem.W.Frag) (c : Value) (i : Nat) (ts : Addr → Value → Option Addr → TS) (Wout : WX) (E : Ends) : WX := fun cls d σ H =>
  ∃ b, PySem.W.exmOne K cls c = some b ∧ (b = true → ∀ a, H a = none → ts a cls d { nx := fun σ' H' => H' a = none → E.nx (σ'.set i none) (upd H' a (ExO cls d a)), rt := fun _ _ => False } (σ.set i (some (.ref a))) H) ∧ (b = false → Wout cls d σ H)
variable {x n : Str} {c : Value} {i : Nat} {body suite : List Stmt} {b₀ : Stmt} {np pos pos' : Pos} {tb : WX → TS} {ts : Addr → Value → Option Addr → TS} {Wout : WX}
/-- the library's rule for 'except x as n' (HandS.Exc), with the caught object tracked behind the suite -/
theorem ps_try_keep (hs : X.stack = X.env :: X.outer) (hf : X.env.frame = some X.env.locals) (hN : X.N.Nodup) (hi : X.N[i]? = some n) (hln : X.env.kindOf n = some .local) (hc : Names X x c) (tk : L2.Takes X Wout) (hex : X.ex = [])
    (hb : ∀ (W : WX) (pn : List (Addr × Obj)) (xe : Value → Shared → Prop), L2.Takes (X.tr pn xe) W → PassesOwn (model X.prog X.w) X.A X.env xe → PSs (X.tr pn xe) body (tb W))
    (hsu : ∀ (a : Addr) (oe : Obj) (cls : Value) (d : Option Addr) (pn : List (Addr × Obj)), Zc cls d oe → (∃ vs, oe.data = .fields vs) → PSs (X.suite a ((a, oe) :: pn)) (b₀ :: suite) (ts a cls d)) :
    PS X (.Try body [.ExceptHandler (some (.Name x np)) (some n) (b₀ :: suite) pos'] [] [] pos) (fun D σ H => tb (wKeep X.K c i ts Wout D) D σ H) := by
  refine ⟨fun pins s σ H D I h => ?_⟩
  have ok := I.ok
  have hfr : X.A.frames = some (X.env :: X.outer) := by rw [ok.frames, hs]
  have hloc : Loc X.env.scope n := .inl hln
  refine wpAny_Try_except ?_
  refine wpAny_mono ((hb (wKeep X.K c i ts Wout D) (X.pn ++ pins) (fun e s₁ => wpAny (model X.prog X.w) X.A (noteFrame e X.env) (fun _ s₂ => wpAny (model X.prog X.w) X.A (setFlight e none) (fun _ s₃ =>
    wpAny (model X.prog X.w) X.A (handleBy e X.env [.ExceptHandler (some (.Name x np)) (some n) (b₀ :: suite) pos']) (SP X pins D) X.xe s₃) X.xe s₂) X.xe s₁) (fun u s' xx => ?_) PassesOwn.looking).run [] s σ H D (I.toTry _) h) (fun f s1 hsp => ?_) (fun e s1 he => he)
  · obtain ⟨a, B, sI, pins', σ', H', cls, d, rfl, J', nb, up, sky, na, os, ag, b, hb1, hyes, hno⟩ := xx
    have J : Inv X pins σ' H' sI := J'.ofTry ok
    have sky' : Sky B (X.env :: X.outer) a (Zc cls d) X.env.locals s'.heap := by rw [← hs]; exact sky
    show wpAny (model X.prog X.w) X.A (noteFrame (.ref a) X.env) _ _ _
    refine Sky.land Zc.steady hfr hf sky' fun h3 fl3 up3 => ?_
    have J3 : Inv X pins σ' H' { s' with heap := h3 } := J.landed nb fl3.1 (up.trans up3) os ag
    obtain ⟨oe3, vs3, he3, hz3, hd3⟩ := fl3.there
    have nfr : a ∉ frs (X.env :: X.outer) := fun hm => by
      obtain ⟨_, o', e', hnf⟩ := fl3.2.2.1.mem hm
      rw [he3] at e'; cases e'
      exact hnf _ hd3
    have nL : a ≠ X.env.locals := fun z => nfr (List.mem_filterMap.mpr ⟨X.env, List.mem_cons_self, by rw [hf, z]⟩)
    have nF : a ∉ X.fs := fun hm => by
      obtain ⟨e, he, q⟩ := List.mem_filterMap.mp hm
      exact nfr (List.mem_filterMap.mpr ⟨e, List.mem_cons_of_mem _ he, q⟩)
    -- it is new since the frame began
    have newI : sI.heap.get? a = none := by
      cases z : sI.heap.get? a with
      | none => rfl
      | some o =>
        have q := nb a o z (by rw [hs]; exact nfr)
        rw [fl3.2.1] at q
        cases q
    have new0 : X.s_0.heap.get? a = none := by
      cases z : X.s_0.heap.get? a with
      | none => rfl
      | some o =>
        obtain ⟨o', q⟩ := J.base.there a o z (by rw [hex]; simp)
        rw [newI] at q
        cases q
    have newP : ∀ p ∈ X.pn ++ pins, p.1 ≠ a := fun p hp z => by
      have q := (J.pin p hp).1
      rw [z, newI] at q
      cases q
    have S3 := J3.suite he3 hd3 na nL nF
    refine wpAny_handleBy_cons (codeAny_handlers_test ?_) (by intro q; cases q)
    have LT : PySem.W.Looks (model X.prog X.w) h3 (typeOf (.ref a)) cls := fun A Q E s k q => wpAny_typeOf_ref (k _ _ he3) (by rw [hz3.1]; exact q)
    have LM := PySem.W.exm_one (M := model X.prog X.w) (J3.kIn) LT hb1
    have test : ∀ {Q : Value → Shared → Prop} {E : Value → Shared → Prop}, Q c { s' with heap := h3 } → wpAny (model X.prog X.w) (X.A.mark (some (.ref a))) (eval (.Name x np) X.env) Q E { s' with heap := h3 } := fun {Q E} q => by
      obtain ⟨hg, hdbg, hm | ⟨hm, hv, hnn⟩⟩ := hc
      · exact ld_glob (X := X.suite a ((a, oe3) :: (X.pn ++ pins))) S3 hg hm q hdbg
      · exact ld_blt (X := X.suite a ((a, oe3) :: (X.pn ++ pins))) S3 hg hm hv q hnn hdbg
    refine test (LM.here ?_)
    cases b with
    | true =>
      refine codeAny_handlers_suite_as ?_
      refine HandSPX.lands_againZ fl3 fun h4 fl4 up4 => ?_
      have J4 : Inv X pins σ' H' { s' with heap := h4 } := J.landed nb fl4.1 ((up.trans up3).trans up4) os ag
      obtain ⟨oe4, vs4, he4, hz4, hd4⟩ := fl4.there
      have S4 := J4.suite he4 hd4 na nL nF
      refine store_ok (X := X.suite a ((a, oe4) :: (X.pn ++ pins))) (v := .ref a) S4 hN hi hloc rfl (fun s5 S5 => ?_) (.inr hln)
      refine wpAny_mono ((hsu a oe4 cls d (X.pn ++ pins) hz4 ⟨_, hd4⟩).run [] s5 _ H' _ S5 (hyes rfl a na)) (fun f s6 hsp => ?_) (fun _ _ z => False.elim z)
      cases f with
      | next =>
        obtain ⟨σ6, H6, S6, q6⟩ := hsp
        have P6 := S6.pin (a, oe4) (List.mem_append_left _ List.mem_cons_self)
        have I6 : Inv X (pins ++ [(a, oe4)]) σ6 H6 s6 := (S6.unsuite ok).pins_of fun p hp => by
          rcases List.mem_append.mp hp with z | z
          · exact (S6.unsuite ok).pin p (List.mem_append_right _ z)
          · have e : p = (a, oe4) := by simpa using z
            subst e
            exact ⟨P6.1, P6.2.1, nL, nF, fun v z => by rw [hd4] at z; cases z⟩
        exact gone_ok I6 hN hi hln fun s7 J7 => ⟨_, _, inv_track J7 hz4 hd4 new0 newP, q6 P6.2.1⟩
      | brk =>
        obtain ⟨_, _, _, q6⟩ := hsp
        exact False.elim q6
      | cont =>
        obtain ⟨_, _, _, q6⟩ := hsp
        exact False.elim q6
      | ret u =>
        obtain ⟨_, _, _, _, _, q6⟩ := hsp
        exact False.elim q6
    | false =>
      show wpAny _ X.A (handleBy (.ref a) X.env []) _ _ _
      refine wpAny_handleBy_nil ?_
      obtain ⟨k1, k2, k3, oe, vs, T, oT, ts', he, hz, hd, h1, hr⟩ := id fl3
      unfold PySem.passOn
      refine wpAny_bind (wpAny_field he hd h1 ?_)
      rw [if_neg (show ¬ ((Value.ref T == Value.none) = true) from by simp)]
      have fin : wpAny (model X.prog X.w) X.A (setFlight (.ref a) X.env.frame) (fun _ s4 => wpAny (model X.prog X.w) X.A (throw (.ref a) : Sem Flow) (SP X pins D) X.xe s4) X.xe { s' with heap := h3 } := by
        rw [hf]
        refine HandSPX.setFlight_upZ fl3 fun h4 hh4 up4 => wpAny_throw (tk _ _ ?_)
        exact ⟨a, B, sI, pins, σ', H', cls, d, rfl, J, nb, (up.trans up3).trans up4, .inr (.inr (by rw [hs]; exact hh4)), na, os, ag, hno rfl⟩
      first
        | exact wpAny_bind (wpAny_pure (wpAny_bind fin))
        | exact wpAny_bind fin
  · cases f with
    | next =>
      obtain ⟨σ', H', J', q⟩ := hsp
      exact wpAny_execs_nil ⟨σ', H', J'.ofTry ok, q⟩
    | brk =>
      obtain ⟨σ', H', J', q⟩ := hsp
      exact ⟨σ', H', J'.ofTry ok, q⟩
    | cont =>
      obtain ⟨σ', H', J', q⟩ := hsp
      exact ⟨σ', H', J'.ofTry ok, q⟩
    | ret u =>
      obtain ⟨v, σ', H', J', r, q⟩ := hsp
      exact ⟨v, σ', H', J'.ofTry ok, r, q⟩
end

/-! ### on data -/
/-- cs: which of the classes are caught -/
def tryM (cs : List Bool) (mb : FM) (h : D → FM) : FM := fun env S => match mb env S with
  | .er (.exc c v) env1 S1 => match cs[c]? with
    | some true => h (.exc c v) env1 S1
    | some false => .er (.exc c v) env1 S1
    | none => .stuck
  | .er _ _ _ => .stuck
  | r => r
/-- the caught one is kept at j -/
def keepM (i j : Nat) (x : D) : FM := fun env S => if i < env.length then .nx (((env.set i (some x)).set j (some x)).set i none) S else .stuck
/-- a suite lets nothing out -/
def noErM (m : FM) : FM := fun env S => match m env S with
  | .er _ _ _ => .stuck
  | r => r
section
variable {X : Cx} {M : Mp} {W : WX} {k : Nat} {x n y : Str} {i j : Nat} {cv : Value} {body : List Stmt} {np pos pos' p1 p2 p3 : Pos} {mb : FM} {cs : List Bool}
theorem Bd.tr (B : Bd X W k) {W' : WX} {pn : List (Addr × Obj)} {xe : Value → Shared → Prop} (tk : L2.Takes (X.tr pn xe) W') : Bd (X.tr pn xe) W' k := ⟨B.room, tk, B.calm, B.nd⟩
theorem exo_ext {cls : Value} {C d a : Addr} (h : cls = .ref C) : ExO cls (some d) a = ExT C d a := by subst h; rfl
/-- try: body; except x as n: y = n -/
theorem ds_tryKeep (i j : Nat) (cs : List Bool) (B : Bd X W k) (hc : Names X x cv) (hx : ∀ c b, cs[c]? = some b → PySem.W.exmOne M.K (.ref (M.ca c)) cv = some b)
    (hb : ∀ (W' : WX) (pn : List (Addr × Obj)) (xe : Value → Shared → Prop), Bd (X.tr pn xe) W' k → Own (X.tr pn xe) → DSs (X.tr pn xe) M W' body mb)
    (hK : X.K = M.K := by rfl) (hs : X.stack = X.env :: X.outer := by rfl) (hf : X.env.frame = some X.env.locals := by rfl) (hi : X.N[i]? = some n := by rfl) (hj : X.N[j]? = some y := by rfl) (hij : i ≠ j := by decide) (hln : X.env.kindOf n = some .local := by rfl) (hly : X.env.scope.names.lookup y = some .local := by rfl) (hex : X.ex = [] := by rfl)
    (hd : (n == ("__debug__" : Str)) = false := by decide) (hcd : (n == ("__classdict__" : Str)) = false := by decide) (hsw : ∀ (a : Addr) (pn : List (Addr × Obj)), swapsWith (.Name n p2) (some (.Name y p1)) p3.line (X.suite a pn).env = pure false := by intros; rfl) :
    DS X M W (.Try body [.ExceptHandler (some (.Name x np)) (some n) [.Assign [.Name y p1] (.Name n p2) p3] pos'] [] [] pos) (tryM cs mb (keepM i j)) := by
  have hsu : ∀ (a : Addr) (oe : Obj) (cls : Value) (d : Option Addr) (pn : List (Addr × Obj)), Zc cls d oe → (∃ vs, oe.data = .fields vs) → PSs (X.suite a ((a, oe) :: pn)) [.Assign [.Name y p1] (.Name n p2) p3] (tAsg (tVar i) (gName j)) := fun a oe cls d pn _ _ =>
    pss_one (ps_set (X := X.suite a ((a, oe) :: pn)) B.nd hj (.inl hly) (pe_var hi (.inl hln) hd hcd) (hsw a _) (.inr hly))
  refine ps_imp (ps_try_keep (Wout := W) (tb := fun W' => rdS M W' mb) hs hf B.nd hi hln hc B.tk hex (fun W' pn xe tk ow => hb W' pn xe (B.tr tk) ow) hsu) fun E σ H h => ?_
  obtain ⟨env, S, φ, ψ, er, sr, p⟩ := h
  refine ⟨env, S, φ, ψ, er, sr, ?_⟩
  unfold tryM at p
  cases hm : mb env S with
  | nx env1 S1 => rw [hm] at p; exact p
  | rt d S1 => rw [hm] at p; exact p
  | bk env1 S1 => rw [hm] at p; exact p
  | ct env1 S1 => rw [hm] at p; exact p
  | stuck => rw [hm] at p; exact p
  | er z env1 S1 =>
    rw [hm] at p
    cases z <;> try exact p.elim
    case exc c v =>
    dsimp only at p
    rintro φ1 H1 σ1 cls od e1 s1 er1 ⟨hcl, d, w, hod, hd1, rw1⟩
    subst hcl hod
    cases hcs : cs[c]? with
    | none => rw [hcs] at p; exact p.elim
    | some b =>
      rw [hcs] at p
      refine ⟨b, by rw [hK]; exact hx c b hcs, fun hbt a ha => ?_, fun hbf => ?_⟩
      · subst hbt
        dsimp only [keepM] at p
        split at p
        rotate_left
        · exact p.elim
        rename_i li0
        have li : i < σ1.length := by rw [← er1.len]; exact li0
        refine ⟨.ref a, by rw [List.getElem?_set_self li], fun hna => ?_⟩
        obtain ⟨e2, s2⟩ := s1.laid (o := ExO (.ref (M.ca c)) (some d) a) hna
        have rx : Rep M φ1 ψ (upd H1 a (ExO (.ref (M.ca c)) (some d) a)) (.exc c v) (.ref a) := by
          simp only [Rep]
          refine ⟨a, d, w, rfl, by rw [upd_same]; exact congrArg some (exo_ext rfl), ?_, Rep.mono s1.ok e2 _ _ rw1⟩
          rw [upd_ne (fun z => by rw [z, hna] at hd1; cases hd1)]
          exact hd1
        have er2 := er1.mono s1.ok e2
        exact p φ1 _ _ (e1.trans e2) s2 (((er2.set rx).set rx).unset i)
      · subst hbf
        exact p φ1 H1 σ1 _ _ e1 s1 er1 ⟨rfl, d, w, rfl, hd1, rw1⟩
/-- try: body; except x: suite, whose end is told without the caught one -/
theorem ds_tryOnly (cs : List Bool) {b₀ : Stmt} {suite : List Stmt} {ms : FM} (B : Bd X W k) (hc : Names X x cv) (hx : ∀ c b, cs[c]? = some b → PySem.W.exmOne M.K (.ref (M.ca c)) cv = some b)
    (hb : ∀ (W' : WX) (pn : List (Addr × Obj)) (xe : Value → Shared → Prop), Bd (X.tr pn xe) W' k → Own (X.tr pn xe) → DSs (X.tr pn xe) M W' body mb)
    (hsu : ∀ (a : Addr) (pn : List (Addr × Obj)), DSs (X.suite a pn) M W0 (b₀ :: suite) ms)
    (hK : X.K = M.K := by rfl) (hs : X.stack = X.env :: X.outer := by rfl) (hf : X.env.frame = some X.env.locals := by rfl) :
    DS X M W (.Try body [.ExceptHandler (some (.Name x np)) none (b₀ :: suite) pos'] [] [] pos) (tryM cs mb fun _ => noErM ms) := by
  refine ps_imp (ps_try_only (Wout := W) (tb := fun W' => rdS M W' mb) (ts := fun _ _ _ => rdS M W0 ms) hs hf hc B.tk (fun W' pn xe tk ow => hb W' pn xe (B.tr tk) ow) (fun a oe cls d pn _ _ => hsu a _)) fun E σ H h => ?_
  obtain ⟨env, S, φ, ψ, er, sr, p⟩ := h
  refine ⟨env, S, φ, ψ, er, sr, ?_⟩
  unfold tryM at p
  cases hm : mb env S with
  | nx env1 S1 => rw [hm] at p; exact p
  | rt d S1 => rw [hm] at p; exact p
  | bk env1 S1 => rw [hm] at p; exact p
  | ct env1 S1 => rw [hm] at p; exact p
  | stuck => rw [hm] at p; exact p
  | er z env1 S1 =>
    rw [hm] at p
    cases z <;> try exact p.elim
    case exc c v =>
    dsimp only at p
    rintro φ1 H1 σ1 cls od e1 s1 er1 ⟨hcl, d, w, hod, hd1, rw1⟩
    subst hcl hod
    cases hcs : cs[c]? with
    | none => rw [hcs] at p; exact p.elim
    | some b =>
      rw [hcs] at p
      refine ⟨b, by rw [hK]; exact hx c b hcs, fun hbt a ha => ?_, fun hbf => ?_⟩
      · subst hbt
        refine ⟨env1, S1, φ1, ψ, er1, s1, ?_⟩
        have p1 := PostS.ext (show PostS M ψ φ H (noErM ms env1 S1) E W from p) e1
        unfold noErM at p1
        cases hms : ms env1 S1 with
        | er _ _ _ => rw [hms] at p1; exact p1.elim
        | nx _ _ => rw [hms] at p1; exact p1
        | rt _ _ => rw [hms] at p1; exact p1
        | bk _ _ => rw [hms] at p1; exact p1
        | ct _ _ => rw [hms] at p1; exact p1
        | stuck => rw [hms] at p1; exact p1
      · subst hbf
        exact p φ1 H1 σ1 _ _ e1 s1 er1 ⟨rfl, d, w, rfl, hd1, rw1⟩
end
end DL
end

section
set_option Elab.async false
set_option linter.all false
set_option maxRecDepth 100000
set_option maxHeartbeats 2000000
/-! DL, part 11: what is asked of a caught exception: its value, its class. -/
namespace DL
open PySem PySem.Spec PyProof.Rows L2
/-- an own class, as asked of its instances -/
structure AskC (K : PySem.W.Frag) (C : Addr) : Prop where
  xf : XfC K C
  no : PySem.W.findIn K (.ref C) "value" = some none
  ex : ExcC K C
section
open PySem.W PySem.Calls
variable {prog : Program} {w : World} {A : Around} {E : Value → Shared → Prop} {s : Shared} {K : Frag} {x D : Addr} {ox : Obj} {od : Option Obj}
theorem find_class (C : ExcC K D) : findObj K D od "__class__" = some (.bind (.builtin "getset_descriptor.__get__") (.builtin "object.__class__")) := by
  obtain ⟨cd, hc, _⟩ := any_some C.hd
  unfold findObj
  rw [hc, Option.bind_some, C.ha, Option.bind_some]
  simp [C.hn, C.ht]
/-- x.__class__, x an exception with or without a dict (HandS.ExcIs tells it of one without) -/
theorem ask_class (C : ExcC K D) (X : K.In s.heap) (I : InstAt s.heap x ox D od) {Q : Option Value → Shared → Prop} (h : Q (some (.ref D)) { s with toks := s.toks + 1 }) : wpAny (model prog w) A (getAttr? (.ref x) "__class__") Q E s := by
  obtain ⟨hp, g, d, t, os⟩ := s
  have L0 := I.type (M := model prog w)
  have L1 := looks_findIn (M := model prog w) X C.hg
  have L2 := looks_findIn (M := model prog w) X C.hk
  have L3 := looks_find (M := model prog w) X I (find_class (od := od) C)
  have sub : Looks (model prog w) hp (isInstance (.ref x) (.type "BaseException")) true := L0.andThen (looks_subIn X C.hs)
  have hx0 : (false && onTheHeap (Value.builtin "BaseException.__getattribute__")) = false := rfl
  have hx2 : (Value.builtin "BaseException.__getattribute__" == Value.builtin "object.__getattribute__") = false := by decide +kernel
  have hx1 : (onTheHeap (Value.ref D) && Value.builtin "BaseException.__getattribute__" == Value.builtin "object.__getattribute__") = false := by rw [hx2]; rfl
  unfold getAttr? getAttrBy? getAttrBy
  refine wpAny_bind (wpAny_mkText (wpAny_bind (wpAny_attempt (wpAny_holding (wpAny_bind (L0.at (wpAny_bind (L1.at ?_))))))))
  show wpAny _ _ (if (onTheHeap (Value.ref D) && Value.builtin "BaseException.__getattribute__" == Value.builtin "object.__getattribute__") = true then _ else _) _ _ _
  rw [hx1, if_neg Bool.false_ne_true]
  unfold getAttrByItsOwn hookBefore
  refine wpAny_bind ?_
  rw [if_pos (show onTheHeap (Value.ref D) = true from rfl)]
  refine L2.at ?_
  refine wpAny_bind (wpAny_attempt (wpAny_holding ?_))
  unfold callGetattribute
  rw [hx0, if_neg Bool.false_ne_true]
  unfold boundAndCalled
  rw [PySem.F.excAttr_ValueError.ga.bind (.ref x)]
  refine wpAny_bind (wpAny_pure ?_)
  show wpAny _ _ (call (.builtin "BaseException.__getattribute__") [.ref x, .str "__class__" t]) _ _ _
  refine wpAny_call (codeAny_call_builtin PySem.F.excAttr_ValueError.ga.plain PySem.F.entry_bexc_ga ?_)
  refine @check_slot (model prog w) _ _ ⟨hp, g, d, t + 1, os⟩ "BaseException.__getattribute__" "BaseException" "__getattribute__" (.ref x) [.str "__class__" t] [] _ (by decide +kernel) (by decide +kernel) sub (PySem.F.args_bexc_ga (.ref x) (.str "__class__" t)) ?_
  unfold Builtin.«object.__getattribute__»
  refine wpAny_bind (wpAny_of_eq (a := ((Value.ref x : Value), [Value.str "__class__" t])) (by first | rfl | (simp only [slotArgs]; rfl)) ?_)
  refine wpAny_bind (wpAny_pure (wpAny_bind (L0.at (wpAny_bind (L3.at ?_)))))
  show wpAny _ _ (holding [Value.builtin "object.__class__"] (call (.builtin "getset_descriptor.__get__") [.builtin "object.__class__", .ref x, .ref D]) >>= ret) _ _ _
  refine wpAny_bind (wpAny_holding (wpAny_call (class_get (s := ⟨hp, g, d, t + 1, os⟩) (ox := ox) (od := od) X I C.hm ?_)))
  refine wpAny_pure ?_
  show wpAny _ _ (handedOut (.ref D)) _ _ _
  rw [handedOut_of (v := .ref D) rfl]
  first
    | exact wpAny_pure (wpAny_pure h)
    | exact wpAny_pure h
    | exact wpAny_pure (wpAny_bind (wpAny_pure (wpAny_pure h)))
theorem kit_exc (C : ExcC K D) : KitX K (.ref x) (.ref D) (fun h => ∃ ox od, InstAt h x ox D od) where
  ty := fun _ _ _ ⟨_, _, I⟩ => I.type
  it := fun _ _ X _ => by
    obtain ⟨cdD, hcD, _⟩ := any_some C.hd
    unfold clsIn at hcD
    split at hcD
    · rename_i c' d' cd' sl' ho
      intro A' Q' E' s' k q
      unfold isType loadHead
      exact wpAny_bind (wpAny_loadPart (k _ _ (X _ _ ho)) (wpAny_pure q))
    · cases hcD
  ne := fun h tp dd its n sl X htp => by
    obtain ⟨cdD, hcD, _⟩ := any_some C.hd
    refine Bool.eq_false_iff.mpr fun q => ?_
    have e : D = tp := Value.ref.inj (beq_iff_eq.mp q)
    subst e
    unfold clsIn at hcD
    split at hcD
    · rename_i c' d' cd' sl' ho
      have z := (X _ _ ho).symm.trans htp
      cases z
    · cases hcD
  ca := fun X ⟨_, _, I⟩ k => ask_class C X I k
end

/-! ### on data -/
/-- n: how many classes there are -/
def fldM (n : Nat) (m : En → Sto → R D) : En → Sto → R D := fun env S => (m env S).bind fun x S1 => match x with
  | .exc c v => if c < n then .ok v S1 else .stuck
  | _ => .stuck
/-- cs: of which classes the answer is yes -/
def isxM (cs : List Bool) (m : En → Sto → R D) : En → Sto → R D := fun env S => (m env S).bind fun x S1 => match x with
  | .exc c _ => match cs[c]? with
    | some b => .ok (.bl b) S1
    | none => .stuck
  | _ => .stuck
section
variable {X : Cx} {M : Mp} {W : WX} {e : Expr} {m : En → Sto → R D} {pos p p' : Pos} {x : Str}
/-- what stands for a caught exception -/
theorem inst_of {pins : List (Addr × Obj)} {σ : L2.St} {s : Shared} {H : Hp} {C d a : Addr} {v : V} (I : Inv X pins σ H s) (h : H a = some (ExT C d a)) (hd : H d = some (.xd (xFs v))) :
    ∃ (ox od : Obj) (mA : Str → Option Value), PySem.W.InstAt s.heap a ox C (some od) ∧ PySem.W.lookIn "value" od = some (mA "value") ∧ ∀ f, RelO ((xFs v).lookup f) (mA f) := by
  obtain ⟨⟨oe, vs, h1, h2, h3, h4⟩, _, _⟩ := I.hok a _ h
  have hx : ObjOk X.prog X.w H s.heap d (.xd (xFs v)) := I.hok d _ hd
  obtain ⟨mA, hns, hr⟩ := hx
  obtain ⟨od, ho, hl⟩ := lookIn_ns hns
  exact ⟨oe, od, mA, ⟨h1, h2, by unfold PySem.W.notCls; rw [h4] <;> rfl, by rw [h3]; exact ho⟩, hl _, hr⟩
def tFld (K : PySem.W.Frag) (te : TE) : TE := fun σ H Q => te σ H fun x H1 => ∃ a C d v, x = .ref a ∧ AskC K C ∧ H1 a = some (ExT C d a) ∧ H1 d = some (.xd (xFs v)) ∧ Q v H1
theorem pe_fld {te : TE} (he : PE X e te) (hb : attributeBase e "value" X.env (eval e X.env) = eval e X.env := by rfl) : PE X (.Attribute e "value" pos) (tFld X.K te) := by
  refine ⟨fun pins s σ H Q I h => ?_⟩
  refine attr_of hb (thn (he.run pins s σ H _ I h) fun u s1 hh => ?_)
  obtain ⟨x, H1, I1, rx, a, C, d, v, ex, T, ha, hd, q⟩ := hh
  subst ex
  obtain rfl : u = Value.ref a := rx
  obtain ⟨ox, od, mA, J, hl, hr⟩ := inst_of I1 ha hd
  obtain ⟨u, hu, ru⟩ := RelO.some_of (v := v) (o := mA "value") (hr "value")
  exact HandSPX.exc_get I1.kIn J T.xf.ga T.xf.gg T.xf.exC (PySem.W.findObj_own T.xf.hdC T.no rfl (by rw [hl, hu])) (handed_of ru) ⟨v, H1, I1.tok _, ru, q⟩
/-- error.value -/
theorem de_fld (n : Nat) (hA : ∀ c, c < n → AskC M.K (M.ca c)) (h : DE X M W e m) (hK : X.K = M.K := by rfl) (hb : attributeBase e "value" X.env (eval e X.env) = eval e X.env := by rfl) : DE X M W (.Attribute e "value" pos) (fldM n m) := by
  refine pe_imp (pe_fld h hb) fun σ H Q h => ?_
  refine rd_bindD h _ fun env φ1 ψ d v S1 H1 er sr r p => ?_
  cases d <;> try exact p.elim
  case exc c w =>
  dsimp only at p
  split at p
  · rename_i hc
    simp only [Rep] at r
    obtain ⟨a, d, y, rfl, h1, h2, h3⟩ := r
    exact ⟨a, M.ca c, d, y, rfl, by rw [hK]; exact hA c hc, h1, h2, p.retD sr h3⟩
  · exact p.elim
def rIsx (K : PySem.W.Frag) (cv : Value) : List V → Hp → VK → Prop := fun xs H Q => ∃ (a C d : Addr) (v c : V) (b : Bool), xs = [.ref a, c] ∧ (∀ u, RelV c u → u = cv) ∧ ExcC K C ∧ H a = some (ExT C d a) ∧ H d = some (.xd (xFs v)) ∧ PySem.W.kitOne K (.ref C) cv = some b ∧ Q (.bl b) H
theorem call_isx {cv : Value} : CallR X (.builtin "isinstance") (rIsx X.K cv) := by
  intro pins s σ H xs us Q I r h
  obtain ⟨a, C, d, v, c, b, rfl, hcv, T, ha, hd, e, q⟩ := h
  cases r with
  | cons rx rr =>
    cases rr with
    | cons rt rr =>
      cases rr
      cases rx
      have ec := hcv _ rt
      subst ec
      obtain ⟨ox, od, mA, J, _, _⟩ := inst_of I ha hd
      exact PySem.W.kia_one (kit_exc T) I.kIn ⟨ox, some od, J⟩ e (fun z => nomatch z) fun tk => ⟨.bl b, H, I.kept (t' := tk) fun _ _ z => z, rfl, q⟩
/-- isinstance(error, X) -/
theorem de_isx (cs : List Bool) {C : Addr} (hA : ∀ c, c < cs.length → AskC M.K (M.ca c)) (hx : ∀ c b, cs[c]? = some b → PySem.W.kitOne M.K (.ref (M.ca c)) (.ref C) = some b) (hm : X.mg "isinstance" = none) (hC : X.mg x = some (.ref C)) (h : DE X M W e m) (hK : X.K = M.K := by rfl)
    (hg : Gl X "isinstance" := by rfl) (hgx : Gl X x := by rfl) (hdb : (x == ("__debug__" : Str)) = false := by decide)
    (he : starEach [e, .Name x p'] X.env = (false, eval e X.env) :: starEach [.Name x p'] X.env := by rfl) (he2 : starEach [.Name x p'] X.env = (false, eval (.Name x p') X.env) :: starEach [] X.env := by rfl) (hpl : (backTo pos (starEach [.Name x p'] X.env)).any (·.1) = false := by rfl) :
    DE X M W (.Call (.Name "isinstance" p) [e, .Name x p'] [] pos) (isxM cs m) := by
  refine pe_imp (pe_callB (call_isx (cv := .ref C)) hg hm (by decide +kernel) (pa_cons h (pa_cons (pe_glob (v := .ref C) hgx hC rfl hdb) pa_nil he2) he) (by decide) (by decide) he hpl) fun σ H Q h => ?_
  refine rd_bindD h _ fun env φ1 ψ d v S1 H1 er sr r q => ?_
  cases d <;> try exact q.elim
  case exc c w =>
  dsimp only at q
  split at q
  · rename_i b hb
    simp only [Rep] at r
    obtain ⟨a, d, y, rfl, h1, h2, h3⟩ := r
    refine ⟨a, M.ca c, d, y, .ref C, b, rfl, fun u hu => hu, by rw [hK]; exact (hA c (List.getElem?_eq_some_iff.mp hb).1).ex, h1, h2, by rw [hK]; exact hx c b hb, q.retD sr (by simp only [Rep])⟩
  · exact q.elim
end
end DL
end

section
set_option Elab.async false
set_option linter.all false
set_option maxRecDepth 100000
set_option maxHeartbeats 2000000
/-! DL, part 12: captured cells, shown (tracked as they stand) to those who are handed a made function, hidden from its own frame. -/
namespace DL
open PySem PySem.Spec PyProof.Rows L2
/-- a cell that stands as it stands -/
def cellO (a : Addr) (ob : Obj) : HO := .frz ob (.ext fun h => h.get? a = some ob)
def shw (C : Addr → Option Obj) (H : Hp) : Hp := fun a => match C a with
  | some ob => some (cellO a ob)
  | none => H a
def hid (C : Addr → Option Obj) (H : Hp) : Hp := fun a => match C a with
  | some _ => none
  | none => H a
section
variable {C : Addr → Option Obj} {H H2 : Hp} {a : Addr}
theorem shw_in {ob : Obj} (h : C a = some ob) : shw C H a = some (cellO a ob) := by unfold shw; rw [h]
theorem shw_out (h : C a = none) : shw C H a = H a := by unfold shw; rw [h]
theorem hid_in {ob : Obj} (h : C a = some ob) : hid C H a = none := by unfold hid; rw [h]
theorem hid_out (h : C a = none) : hid C H a = H a := by unfold hid; rw [h]
theorem cellO_ok {P : Program} {w : World} {H : Hp} {h : Heap} {ob : Obj} (e : h.get? a = some ob) : ObjOk P w H h a (cellO a ob) := ⟨e, e, ⟨ob, e⟩, fun _ _ q k => k _ q⟩
theorem cellO_get {P : Program} {w : World} {H : Hp} {h : Heap} {ob : Obj} (e : ObjOk P w H h a (cellO a ob)) : h.get? a = some ob := e.1
/-- cells are neither owners nor tuples nor tables -/
theorem cellO_own {ob : Obj} {x : Addr} : cellO a ob ≠ .own x := fun z => by cases z
theorem cellO_tup {ob : Obj} {xs : List V} : cellO a ob ≠ .tup xs := fun z => by cases z
theorem cellO_tbl {ob : Obj} {xs : Array Value} : cellO a ob ≠ .tbl xs := fun z => by cases z

/-- all cells are shown in H -/
def Shown (C : Addr → Option Obj) (H : Hp) : Prop := ∀ a ob, C a = some ob → H a = some (cellO a ob)
def Away (C : Addr → Option Obj) (H : Hp) : Prop := ∀ a ob, C a = some ob → H a = none
theorem shown_shw : Shown C (shw C H) := fun a ob h => shw_in h
theorem away_hid : Away C (hid C H) := fun a ob h => hid_in h
theorem shw_hid (s : Shown C H) : shw C (hid C H) = H := by
  funext a
  cases h : C a with
  | none => rw [shw_out h, hid_out h]
  | some ob => rw [shw_in h, s a ob h]
theorem hid_shw (s : Away C H) : hid C (shw C H) = H := by
  funext a
  cases h : C a with
  | none => rw [hid_out h, shw_out h]
  | some ob => rw [hid_in h, s a ob h]
theorem hok_hid {P : Program} {w : World} {h : Heap} (x : HOk P w H h) (s : Shown C H) : HOk P w (hid C H) h := fun a o e => by
  cases hc : C a with
  | some ob => rw [hid_in hc] at e; cases e
  | none =>
    rw [hid_out hc] at e
    have k : ∀ {c : Addr} {u : HO}, H c = some u → (∀ ob, u ≠ cellO c ob) → hid C H c = some u := fun {c u} q n => by
      cases hc' : C c with
      | none => rw [hid_out hc']; exact q
      | some ob =>
        have z := s c ob hc'
        rw [q] at z
        exact absurd (Option.some.inj z) (n ob)
    exact (x a o e).stay (fun _ _ _ z => z) (fun c q => k q fun _ z => cellO_own z.symm) fun c xs q => k q fun _ z => cellO_tup z.symm
theorem hok_shw {P : Program} {w : World} {h : Heap} (x : HOk P w H h) (s : Away C H) (hc : ∀ a ob, C a = some ob → h.get? a = some ob) : HOk P w (shw C H) h := fun a o e => by
  cases q : C a with
  | some ob =>
    rw [shw_in q] at e
    cases e
    exact cellO_ok (hc a ob q)
  | none =>
    rw [shw_out q] at e
    have k : ∀ {c : Addr} {u : HO}, H c = some u → shw C H c = some u := fun {c u} q => by
      cases hc' : C c with
      | none => rw [shw_out hc']; exact q
      | some ob => rw [s c ob hc'] at q; cases q
    exact (x a o e).stay (fun _ _ _ z => z) (fun c q => k q) fun c xs q => k q
variable {P : Program} {w : World} {K : PySem.W.Frag} {mg : Str → Option Value} {base : Heap} {A : Around} {outer : List Env} {s : Shared}
theorem env0_hid (e : Env0 P w K mg base A outer s H) (sh : Shown C H) : Env0 P w K mg base A outer s (hid C H) :=
  ⟨e.frames, e.mod, fun b o q => ⟨(e.bs b o q).1, by
    cases hc : C b with
    | some ob => exact hid_in hc
    | none => rw [hid_out hc]; exact (e.bs b o q).2⟩, e.bsz, e.funs, fun b hb => by
    cases hc : C b with
    | some ob => exact hid_in hc
    | none => rw [hid_out hc]; exact e.frf b hb, hok_hid e.hok sh, e.bare⟩
theorem env0_shw (e : Env0 P w K mg base A outer s H) (aw : Away C H) (hc : ∀ a ob, C a = some ob → s.heap.get? a = some ob) (nb : ∀ a ob, C a = some ob → base.get? a = none) (nf : ∀ a ob, C a = some ob → a ∉ frs outer) : Env0 P w K mg base A outer s (shw C H) :=
  ⟨e.frames, e.mod, fun b o q => ⟨(e.bs b o q).1, by
    cases hb : C b with
    | some ob => rw [nb b ob hb] at q; cases q
    | none => rw [shw_out hb]; exact (e.bs b o q).2⟩, e.bsz, e.funs, fun b hb => by
    cases hq : C b with
    | some ob => exact absurd hb (nf b ob hq)
    | none => rw [shw_out hq]; exact e.frf b hb, hok_shw e.hok aw hc, e.bare⟩
/-- behind a call to which the cells were hidden -/
theorem ce_hid {Q : VK} {u : Value} {s' : Shared} (ok : HOk P w H s.heap) (sh : Shown C H) (nf : ∀ a ob, C a = some ob → a ∉ frs outer) (c : CE outer P w (hid C H) s (fun v H2 => Away C H2 → Q v (shw C H2)) u s') : CE outer P w H s Q u s' := by
  obtain ⟨v, H2, os, bare, un, hok, r, q⟩ := c
  have get : ∀ a ob, C a = some ob → s.heap.get? a = some ob := fun a ob h => cellO_get (ok a _ (sh a ob h))
  have aw : Away C H2 := fun a ob h => un.free a ob (get a ob h) (hid_in h) (by simp)
  have get' : ∀ a ob, C a = some ob → s'.heap.get? a = some ob := fun a ob h => un.keep a ob (get a ob h) (hid_in h) (nf a ob h) (by simp)
  have out : ∀ {b}, H b = none → C b = none := fun {b} n => by
    cases h : C b with
    | none => rfl
    | some ob => rw [sh b ob h] at n; cases n
  refine ⟨v, shw C H2, os, bare, ⟨fun b o e n hb hx => ?_, fun b o e n hb hx => ?_, fun b o e n hx => ?_, un.there, fun b xs e => ?_, fun b o z e => ?_, fun b ps e => ?_⟩, hok_shw hok aw get', r, q aw⟩
  · exact un.keep b o e (by rw [hid_out (out n)]; exact n) hb hx
  · exact un.slot b o e (by rw [hid_out (out n)]; exact n) hb hx
  · rw [shw_out (out n)]
    exact un.free b o e (by rw [hid_out (out n)]; exact n) hx
  · have hc : C b = none := by
      cases h : C b with
      | none => rfl
      | some ob =>
        have z := sh b ob h
        rw [e] at z
        exact absurd (Option.some.inj z) fun y => cellO_tup y.symm
    rw [shw_out hc]
    exact un.tups b xs (by rw [hid_out hc]; exact e)
  · cases h : C b with
    | some ob =>
      have z2 := sh b ob h
      rw [e] at z2
      rw [shw_in h, ← Option.some.inj z2]
    | none =>
      rw [shw_out h]
      exact un.frzs b o z (by rw [hid_out h]; exact e)
  · have hc : C b = none := by
      cases h : C b with
      | none => rfl
      | some ob =>
        have z := sh b ob h
        rw [e] at z
        exact absurd (Option.some.inj z) fun y => cellO_tbl y.symm
    obtain ⟨m, q⟩ := un.tbls b ps (by rw [hid_out hc]; exact e)
    exact ⟨m, by rw [shw_out hc]; exact q⟩
/-- .. to which they were shown -/
theorem ce_shw {Q : VK} {u : Value} {s' : Shared} (aw : Away C H) (get : ∀ a ob, C a = some ob → s.heap.get? a = some ob) (nf : ∀ a ob, C a = some ob → a ∉ frs outer) (c : CE outer P w (shw C H) s (fun v H2 => Shown C H2 → Q v (hid C H2)) u s') : CE outer P w H s Q u s' := by
  obtain ⟨v, H2, os, bare, un, hok, r, q⟩ := c
  have sh : Shown C H2 := fun a ob h => un.frzs a ob _ (shw_in h)
  have get' : ∀ a ob, C a = some ob → s'.heap.get? a = some ob := fun a ob h => cellO_get (hok a _ (sh a ob h))
  refine ⟨v, hid C H2, os, bare, ⟨fun b o e n hb hx => ?_, fun b o e n hb hx => ?_, fun b o e n hx => ?_, un.there, fun b xs e => ?_, fun b o z e => ?_, fun b ps e => ?_⟩, hok_hid hok sh, r, q sh⟩
  · cases h : C b with
    | some ob =>
      have z := get b ob h
      rw [e] at z
      cases z
      exact get' b _ h
    | none => exact un.keep b o e (by rw [shw_out h]; exact n) hb hx
  · cases h : C b with
    | some ob => exact absurd hb (nf b ob h)
    | none => exact un.slot b o e (by rw [shw_out h]; exact n) hb hx
  · cases h : C b with
    | some ob => exact hid_in h
    | none => rw [hid_out h]; exact un.free b o e (by rw [shw_out h]; exact n) hx
  · have hc : C b = none := by
      cases h : C b with
      | none => rfl
      | some ob => rw [aw b ob h] at e; cases e
    rw [hid_out hc]
    exact un.tups b xs (by rw [shw_out hc]; exact e)
  · have hc : C b = none := by
      cases h : C b with
      | none => rfl
      | some ob => rw [aw b ob h] at e; cases e
    rw [hid_out hc]
    exact un.frzs b o z (by rw [shw_out hc]; exact e)
  · have hc : C b = none := by
      cases h : C b with
      | none => rfl
      | some ob => rw [aw b ob h] at e; cases e
    obtain ⟨m, q⟩ := un.tbls b ps (by rw [shw_out hc]; exact e)
    exact ⟨m, by rw [hid_out hc]; exact q⟩
/-- .. where an exception came out -/
theorem cx_hid {E : XK} {u : Value} {s' : Shared} (ok : HOk P w H s.heap) (sh : Shown C H) (nf : ∀ a ob, C a = some ob → a ∉ frs outer) (c : L2.CX P w outer (hid C H) s (fun cls d H2 => Away C H2 → E cls d (shw C H2)) u s') : L2.CX P w outer H s E u s' := by
  obtain ⟨a, B, H2, cls, d, rfl, fl, hok, ub, na, os, ag, q⟩ := c
  have get : ∀ a ob, C a = some ob → s.heap.get? a = some ob := fun a ob h => cellO_get (ok a _ (sh a ob h))
  have aw : Away C H2 := fun a ob h => ub.free a ob (get a ob h) (hid_in h)
  have get' : ∀ a ob, C a = some ob → B.get? a = some ob := fun a ob h => ub.keep a ob (get a ob h) (hid_in h) (nf a ob h)
  have out : ∀ {b}, H b = none → C b = none := fun {b} n => by
    cases h : C b with
    | none => rfl
    | some ob => rw [sh b ob h] at n; cases n
  have ca : C a = none := by
    cases h : C a with
    | none => rfl
    | some ob =>
      have z := get' a ob h
      rw [fl.2.1] at z; cases z
  refine ⟨a, B, shw C H2, cls, d, rfl, fl, hok_shw hok aw get', ⟨fun b o e n hb => ?_, ub.slot, fun b o e n => ?_, ub.there, fun b xs e => ?_, fun b o z e => ?_, fun b ps e => ?_⟩, by rw [shw_out ca]; exact na, os, ag, q aw⟩
  · exact ub.keep b o e (by rw [hid_out (out n)]; exact n) hb
  · rw [shw_out (out n)]
    exact ub.free b o e (by rw [hid_out (out n)]; exact n)
  · have hc : C b = none := by
      cases h : C b with
      | none => rfl
      | some ob =>
        have z := sh b ob h
        rw [e] at z
        exact absurd (Option.some.inj z) fun y => cellO_tup y.symm
    rw [shw_out hc]
    exact ub.tups b xs (by rw [hid_out hc]; exact e)
  · cases h : C b with
    | some ob =>
      have z2 := sh b ob h
      rw [e] at z2
      rw [shw_in h, ← Option.some.inj z2]
    | none =>
      rw [shw_out h]
      exact ub.frzs b o z (by rw [hid_out h]; exact e)
  · have hc : C b = none := by
      cases h : C b with
      | none => rfl
      | some ob =>
        have z := sh b ob h
        rw [e] at z
        exact absurd (Option.some.inj z) fun y => cellO_tbl y.symm
    obtain ⟨m, q⟩ := ub.tbls b ps (by rw [hid_out hc]; exact e)
    exact ⟨m, by rw [shw_out hc]; exact q⟩
theorem cx_shw {E : XK} {u : Value} {s' : Shared} (aw : Away C H) (get : ∀ a ob, C a = some ob → s.heap.get? a = some ob) (nf : ∀ a ob, C a = some ob → a ∉ frs outer) (c : L2.CX P w outer (shw C H) s (fun cls d H2 => Shown C H2 → E cls d (hid C H2)) u s') : L2.CX P w outer H s E u s' := by
  obtain ⟨a, B, H2, cls, d, rfl, fl, hok, ub, na, os, ag, q⟩ := c
  have sh : Shown C H2 := fun a ob h => ub.frzs a ob _ (shw_in h)
  have get' : ∀ a ob, C a = some ob → B.get? a = some ob := fun a ob h => cellO_get (hok a _ (sh a ob h))
  refine ⟨a, B, hid C H2, cls, d, rfl, fl, hok_hid hok sh, ⟨fun b o e n hb => ?_, ub.slot, fun b o e n => ?_, ub.there, fun b xs e => ?_, fun b o z e => ?_, fun b ps e => ?_⟩, ?_, os, ag, q sh⟩
  · cases h : C b with
    | some ob =>
      have z := get b ob h
      rw [e] at z
      cases z
      exact get' b _ h
    | none => exact ub.keep b o e (by rw [shw_out h]; exact n) hb
  · cases h : C b with
    | some ob => exact hid_in h
    | none => rw [hid_out h]; exact ub.free b o e (by rw [shw_out h]; exact n)
  · have hc : C b = none := by
      cases h : C b with
      | none => rfl
      | some ob => rw [aw b ob h] at e; cases e
    rw [hid_out hc]
    exact ub.tups b xs (by rw [shw_out hc]; exact e)
  · have hc : C b = none := by
      cases h : C b with
      | none => rfl
      | some ob => rw [aw b ob h] at e; cases e
    rw [hid_out hc]
    exact ub.frzs b o z (by rw [shw_out hc]; exact e)
  · have hc : C b = none := by
      cases h : C b with
      | none => rfl
      | some ob => rw [aw b ob h] at e; cases e
    obtain ⟨m, q⟩ := ub.tbls b ps (by rw [shw_out hc]; exact e)
    exact ⟨m, by rw [hid_out hc]; exact q⟩
  · cases h : C a with
    | some ob => exact hid_in h
    | none => rw [hid_out h]; exact na
end
end DL
end

section
set_option Elab.async false
set_option linter.all false
set_option maxRecDepth 100000
set_option maxHeartbeats 2000000
/-! DL, part 13: made functions (nested defs, lambdas): what they are, what they promise, their calls. -/
namespace DL
open PySem PySem.Spec PyProof.Rows L2 LamX NdefX
/-- the words of a nested def (a body) or of a lambda (an expression); its names: parameters, captured ones, all -/
structure Cd where
  name : Str
  qual : Str
  params : Arguments
  scope : Scope
  body : List Stmt ⊕ Expr
  ps : List Str
  fr : List Str
  N : List Str
def Cd.stmts (cd : Cd) : List Stmt := match cd.body with
  | .inl b => b
  | .inr _ => []
def Cd.nf (cd : Cd) (cl : List (Str × Addr)) (c : Addr) : NF := ⟨cd.name, cd.qual, cd.params, cd.stmts, cd.scope, cl, c⟩
def LamO (f : Addr) (cd : Cd) (e : Expr) (cl : List (Str × Addr)) (c : Addr) : HO := .ext fun h => ∃ pm ctv, h.get? f = some (PySem.W.kla_obj cd.name cd.qual cd.params e cd.scope cl pm c ctv)
def Cd.fnO (cd : Cd) (f : Addr) (cl : List (Str × Addr)) (c : Addr) : HO := match cd.body with
  | .inl _ => FnO f (cd.nf cl c)
  | .inr e => LamO f cd e cl c
theorem Cd.imm (cd : Cd) (f : Addr) (cl : List (Str × Addr)) (c : Addr) : Imm (cd.fnO f cl c) = true ∧ notCell (cd.fnO f cl c) = true ∧ notTbl (cd.fnO f cl c) = true := by
  unfold Cd.fnO
  split <;> exact ⟨rfl, rfl, rfl⟩
/-- at f a function of these words, its cells shown, holding xs -/
structure CloAt (cd : Cd) (H : Hp) (f : Addr) (xs : List V) (cl : List (Str × Addr)) (c : Addr) (C : Addr → Option Obj) : Prop where
  fn : H f = some (cd.fnO f cl c)
  code : H c = some (CodeO c cd.qual)
  shown : Shown C H
  len : xs.length = cd.fr.length
  dom : ∀ y a, cl.lookup y = some a → ∃ ob v, C a = some ob ∧ ob.data = .cell v
  inj : ∀ x y a, cl.lookup x = some a → cl.lookup y = some a → x = y
  has : ∀ (i : Nat) (y : Str) (x : V), cd.fr[i]? = some y → xs[i]? = some x → ∃ a ob u, cl.lookup y = some a ∧ C a = some ob ∧ ob.data = .cell (some u) ∧ RelV x u
def cloP (cds : Nat → Option Cd) (k : Nat) (H : Hp) (f : Addr) (xs : List V) : Prop := ∃ cd cl c C, cds k = some cd ∧ CloAt cd H f xs cl c C
theorem cloP_mono {cds : Nat → Option Cd} {k : Nat} {H H' : Hp} {f : Addr} {xs : List V} (h : cloP cds k H f xs) (e : ∀ b o, H b = some o → Imm o = true → H' b = some o) : cloP cds k H' f xs := by
  obtain ⟨cd, cl, c, C, h1, h2⟩ := h
  exact ⟨cd, cl, c, C, h1, e _ _ h2.fn (cd.imm f cl c).1, e _ _ h2.code rfl, fun a ob q => e _ _ (h2.shown a ob q) rfl, h2.len, h2.dom, h2.inj, h2.has⟩

/-- its promise: m at the arguments and what is captured -/
structure ClOk (P : Program) (w : World) (M : Mp) (mg : Str → Option Value) (base : Heap) (k : Nat) (cd : Cd) (m : Fn) : Prop where
  run : ∀ (f c : Addr) (cl : List (Str × Addr)) (A : Around) (outer : List Env) (s : Shared) (H : Hp) (us : List Value) (vs xs : List V) (Q : VK) (E : XK), Room k A → Env0 P w M.K mg base A outer s H → H f = some (cd.fnO f cl c) → H c = some (CodeO c cd.qual) →
    CellsAt cl cd.fr (xs.map some) s.heap H → Vals vs us → vs.length = cd.ps.length → spM M (cd.ps.length + cd.fr.length) m (vs ++ xs) H Q E → codeAny (model P w) A (.call (.ref f) ⟨us, []⟩) (CR (L2.CX P w) outer P w H s Q E) s
theorem ClOk.mono {P : Program} {w : World} {M : Mp} {mg : Str → Option Value} {base : Heap} {j k : Nat} {cd : Cd} {m : Fn} (h : ClOk P w M mg base j cd m) (hk : j ≤ k) : ClOk P w M mg base k cd m :=
  ⟨fun f c cl A outer s H us vs xs Q E hr => h.run f c cl A outer s H us vs xs Q E (hr.mono hk)⟩
section
variable {P : Program} {w : World} {M : Mp} {mg : Str → Option Value} {base : Heap} {k : Nat} {cd : Cd}
theorem startF_eq {N : List Str} {vs xs : List V} : startF N vs (xs.map some) = L2.start N (vs ++ xs) := by
  unfold startF L2.start
  rw [List.map_append, List.append_assoc, List.length_map, List.length_append, Nat.sub_sub]
theorem bodyM_post {ψ φ : List Addr} {H : Hp} {m : FM} {N : List Str} {ds : List D} {S : Sto} {Q : VK} {E : XK} (p : Post (rpD M ψ) φ H (bodyM N.length m S ds) Q E) :
    PostS M ψ φ H (m (ds.map some ++ List.replicate (N.length - ds.length) none) S) { nx := fun _ H' => Q .non H', rt := Q } (wE E) := by
  unfold bodyM at p
  cases hm : m (ds.map some ++ List.replicate (N.length - ds.length) none) S with
  | nx env1 S1 => rw [hm] at p; exact fun φ' H' σ' e s1 _ => p φ' H' .non e ⟨s1, by simp only [Rep]⟩
  | rt d S1 => rw [hm] at p; exact fun φ' H' v e s1 r1 => p φ' H' v e ⟨s1, r1⟩
  | bk env1 S1 => rw [hm] at p; exact p.elim
  | ct env1 S1 => rw [hm] at p; exact p.elim
  | er x env1 S1 => rw [hm] at p; exact fun φ' H' σ' cls od e s1 _ rx => p φ' H' cls od e s1 rx
  | stuck => rw [hm] at p; exact p.elim
/-- a nested def by its body -/
theorem clo_def {b : List Stmt} {m : FM} (hb : cd.body = .inl b) (S : NScope cd.N cd.ps cd.fr cd.scope) (hbi : ∀ (cl : List (Str × Addr)) (c : Addr) (doc pm ctv : Value) (us : List Value), us.length = cd.ps.length → bindArgs ((cd.nf cl c).fd doc pm ctv) ⟨us, []⟩ = pure (cd.ps.zip us))
    (hd : ∀ (cl : List (Str × Addr)) (c f : Addr) (A : Around) (outer : List Env) (s : Shared) (H : Hp) (E : XK), Bd (ncx (L2.CX P w) P w M.K mg base cd.N (cd.nf cl c) f A outer s H E) (wE E) k → Own (ncx (L2.CX P w) P w M.K mg base cd.N (cd.nf cl c) f A outer s H E) →
      DSs (ncx (L2.CX P w) P w M.K mg base cd.N (cd.nf cl c) f A outer s H E) M (wE E) b m) : ClOk P w M mg base (k + 1) cd (bodyM cd.N.length m) := by
  refine ⟨fun f c cl A outer s H us vs xs Q E hr e0 hf hc C r hl q => ?_⟩
  have hst : cd.stmts = b := by unfold Cd.stmts; rw [hb]
  have hf' : H f = some (FnO f (cd.nf cl c)) := by
    rw [hf]
    unfold Cd.fnO
    rw [hb]
  have nk : NOk P w M.K mg base (L2.CX P w) (k + 1) f (cd.nf cl c) cd.ps cd.fr (fun ws vs H Q E => ∃ xs, ws = xs.map some ∧ vs.length = cd.ps.length ∧ spM M (cd.ps.length + cd.fr.length) (bodyM cd.N.length m) (vs ++ xs) H Q E) := by
    refine nok_of (N := cd.N) S (hbi cl c) (fun ws vs H Q E h => by obtain ⟨_, _, h, _⟩ := h; exact h) fun A outer s H vs ws Q E hr _ _ _ h => ?_
    obtain ⟨xs, rfl, _, ds, S', φ, ψ, h1, r, sr, p⟩ := h
    have own : Own (ncx (L2.CX P w) P w M.K mg base cd.N (cd.nf cl c) f A outer s H E) := L2.passes_of rfl
    refine ⟨rdS M (wE E) m, ?_, ?_⟩
    · show PSs _ cd.stmts _
      rw [hst]
      exact hd cl c f A outer s H E ⟨hr, L2.takes_of (E := E) rfl rfl rfl rfl, rfl, S.nd⟩ own
    · rw [startF_eq]
      exact ⟨_, S', φ, ψ, ERel.start r, sr, bodyM_post p⟩
  exact nk.run A outer s H us vs (xs.map some) Q E hr e0 hf' hc C r ⟨xs, rfl, hl, q⟩
/-- a lambda without parameters by its expression -/
theorem clo_lam {e : Expr} {m : En → Sto → R D} (hb : cd.body = .inr e) (hps : cd.ps = []) (S : NScope cd.N [] cd.fr cd.scope) (hbi : ∀ (cl : List (Str × Addr)) (c : Addr) (pm ctv : Value), bindArgs (PySem.W.kla_fn cd.name cd.qual cd.params e cd.scope cl pm (.ref c) ctv) ⟨[], []⟩ = pure [])
    (hd : ∀ (cl : List (Str × Addr)) (c f : Addr) (A : Around) (outer : List Env) (s : Shared) (H : Hp) (E : XK), Bd (ncx (L2.CX P w) P w M.K mg base cd.N (cd.nf cl c) f A outer s H E) (wE E) k →
      DE (ncx (L2.CX P w) P w M.K mg base cd.N (cd.nf cl c) f A outer s H E) M (wE E) e m) : ClOk P w M mg base (k + 1) cd (bodyM cd.N.length (retM m)) := by
  refine ⟨fun f c cl A outer s H us vs xs Q E hr e0 hf hc C r hl q => ?_⟩
  rw [hps] at hl q
  have hf' : H f = some (LamO f cd e cl c) := by
    rw [hf]
    unfold Cd.fnO
    rw [hb]
  have hvs : vs = [] := List.length_eq_zero_iff.mp hl
  subst hvs
  cases r
  have S' : NScope cd.N [] cd.fr (cd.nf cl c).scope := S
  obtain ⟨⟨pm, ctv, ho⟩, _, _⟩ := e0.hok f _ hf'
  have lim : s.heap.NoLimit := e0.mod.nolimit.keeps fun b o e => (e0.bs b o e).1
  refine PySem.W.kla_callFunE hr.depth ho rfl S.co S.gen rfl (codeO_at e0.hok hc) ?_
  rw [hbi cl c pm ctv]
  refine wpAny_pure (wpAny_newFunctionEnv S.nocell (fun y hy => absurd hy (by simp)) (fun h₁ hns hsb => ⟨lim.fresh _ hsb, ?_⟩) S.kind)
  show codeAny _ _ (.expr e (envF (cd.nf cl c) f s.heap.objs.size)) _ _
  have kp : ∀ b o, s.heap.get? b = some o → h₁.get? b = some o := fun b o e => hsb.extBut b o (Nat.ne_of_lt (Heap.lt_size e)) (Heap.get?_push_of_some _ e)
  obtain ⟨ds, S0, φ, ψ, h1, r0, sr, p⟩ := q
  have J : Inv (ncx (L2.CX P w) P w M.K mg base cd.N (cd.nf cl c) f A outer s H E) [] (startF cd.N [] (xs.map some)) H { s with heap := h₁, toks := s.toks + ([] : List (Str × Value)).length } := inv_startN (ps := []) S' hr.hd e0 rfl .nil C hns kp
  have B : Bd (ncx (L2.CX P w) P w M.K mg base cd.N (cd.nf cl c) f A outer s H E) (wE E) k := ⟨hr.deeper _, L2.takes_of (E := E) rfl rfl rfl rfl, rfl, S.nd⟩
  have q2 : rdD M (wE E) m (startF cd.N [] (xs.map some)) H Q := by
    rw [startF_eq]
    refine ⟨_, S0, φ, ψ, ERel.start r0, sr, ?_⟩
    have p2 := bodyM_post p
    unfold retM at p2
    cases hm : m (ds.map some ++ List.replicate (cd.N.length - ds.length) none) S0 with
    | ok d S1 => rw [hm] at p2; exact fun φ' H' v e ⟨s1, r1⟩ => p2 φ' H' v e s1 r1
    | err x S1 => rw [hm] at p2; exact fun φ' H' cls od e s1 rx => p2 φ' H' (L2.start cd.N ([] ++ xs)) cls od e s1 ((ERel.start r0).mono s1.ok e) rx
    | stuck => rw [hm] at p2; exact p2.elim
  refine PySem.W.kla_codeExpr (wpAny_mono ((hd cl c f A outer s H E B).run [] _ _ H Q J q2) (fun v s' hq => ?_) fun e s' hq => hq)
  obtain ⟨w', H', J', rv, q⟩ := hq
  exact ⟨w', H', J'.os, J'.bare, J'.base, J'.hok, rv, q⟩
end
end DL
end

section
set_option Elab.async false
set_option linter.all false
set_option maxRecDepth 100000
set_option maxHeartbeats 2000000
/-! DL, part 14: calls of values: defs and made functions that a name holds. -/
namespace DL
open PySem PySem.Spec PyProof.Rows L2 LamX NdefX
section
variable {M : Mp} {φ ψ : List Addr} {H H' : Hp}
mutual
theorem Rep.part {n : Nat} (k : ∀ b o, H b = some o → notCell o = true → H' b = some o) : ∀ (d : D) (v : V), lowD n d = true → Rep M φ ψ H d v → Rep M φ ψ H' d v
  | .non, v, _, h => by simpa only [Rep] using h
  | .bl b, v, _, h => by simpa only [Rep] using h
  | .int i, v, _, h => by simpa only [Rep] using h
  | .str s, v, _, h => by simpa only [Rep] using h
  | .tup ds, v, l, h => by
    simp only [Rep] at h ⊢
    simp only [lowD] at l
    obtain ⟨a, xs, rfl, h1, h2⟩ := h
    refine ⟨a, xs, rfl, ?_, RepL.part k ds xs l h2⟩
    rcases h1 with (r | ⟨o, r⟩) | r
    · exact .inl (.inl (k _ _ r rfl))
    · exact .inl (.inr ⟨o, k _ _ r rfl⟩)
    · exact .inr r
  | .lst ds, v, l, h => by
    simp only [Rep] at h ⊢
    simp only [lowD] at l
    obtain ⟨a, xs, rfl, h1, h2, h3, h4⟩ := h
    exact ⟨a, xs, rfl, h1, h2, k _ _ h3 rfl, RepL.part k ds xs l h4⟩
  | .scr ds, v, l, h => by
    simp only [Rep] at h ⊢
    simp only [lowD] at l
    obtain ⟨a, xs, rfl, h1, h2⟩ := h
    refine ⟨a, xs, rfl, ?_, RepL.part k ds xs l h2⟩
    rcases h1 with ⟨o, r⟩ | r
    · exact .inl ⟨o, k _ _ r rfl⟩
    · exact .inr r
  | .dic ks ds, v, l, h => by
    simp only [Rep] at h ⊢
    simp only [lowD] at l
    obtain ⟨a, xs, rfl, h1, h2, h3, h5, h4⟩ := h
    exact ⟨a, xs, rfl, h1, h2, k _ _ h3 rfl, h5, RepL.part k ds xs l h4⟩
  | .exc c w, v, l, h => by
    simp only [Rep] at h ⊢
    simp only [lowD] at l
    obtain ⟨a, d, x, rfl, h1, h2, h3⟩ := h
    exact ⟨a, d, x, rfl, k _ _ h1 rfl, k _ _ h2 rfl, Rep.part k w x l h3⟩
  | .fn n, v, _, h => by simpa only [Rep] using h
  | .clo n ds, v, l, h => by simp [lowD] at l
  | .ref n, v, l, h => by simpa only [Rep] using h
theorem RepL.part {n : Nat} (k : ∀ b o, H b = some o → notCell o = true → H' b = some o) : ∀ (ds : List D) (vs : List V), lowL n ds = true → RepL M φ ψ H ds vs → RepL M φ ψ H' ds vs
  | [], vs, _, h => by simpa only [RepL] using h
  | d :: ds, vs, l, h => by
    simp only [RepL] at h ⊢
    simp only [lowL, Bool.and_eq_true] at l
    obtain ⟨x, xs, rfl, h1, h2⟩ := h
    exact ⟨x, xs, rfl, Rep.part k d x l.1 h1, RepL.part k ds xs l.2 h2⟩
end
theorem RepL.partN (k : ∀ b o, H b = some o → notCell o = true → H' b = some o) : ∀ {ds : List D} {vs : List V}, ds.all argN = true → RepL M φ ψ H ds vs → RepL M φ ψ H' ds vs
  | [], vs, _, h => by simpa only [RepL] using h
  | d :: ds, vs, l, h => by
    simp only [RepL] at h ⊢
    simp only [List.all_cons, Bool.and_eq_true] at l
    obtain ⟨x, xs, rfl, h1, h2⟩ := h
    refine ⟨x, xs, rfl, ?_, RepL.partN k l.2 h2⟩
    by_cases hd : lowD 0 d = true
    · exact Rep.part k d x hd h1
    · cases d <;> simp only [argN] at l <;> first | exact absurd l.1 hd | simpa only [Rep] using h1
end
section
variable {M : Mp} {C : Addr → Option Obj} {H : Hp} {n : Nat} {f : Fn} {vs : List V} {Q : VK} {E : XK}
theorem hid_part (sh : Shown C H) : ∀ b o, H b = some o → notCell o = true → hid C H b = some o := fun b o e hn => by
  cases h : C b with
  | some ob =>
    have z := sh b ob h
    rw [e] at z
    rw [Option.some.inj z] at hn
    cases hn
  | none => rw [hid_out h]; exact e
/-- the captured cells are hidden from it -/
theorem spL.hid (sh : Shown C H) (h : spL M argN n f vs H Q E) : spM M n f vs (hid C H) (fun v H2 => Away C H2 → Q v (shw C H2)) (fun cls d H2 => Away C H2 → E cls d (shw C H2)) := by
  obtain ⟨ds, S, φ, ψ, ha, hS, h1, r, s, p⟩ := h
  have k := hid_part sh
  have out : ∀ {b o}, H b = some o → notCell o = true → C b = none := fun {b o} e hn => by
    cases h : C b with
    | none => rfl
    | some ob =>
      have z := sh b ob h
      rw [e] at z
      rw [Option.some.inj z] at hn
      cases hn
  have s' : SRel M φ ψ S (DL.hid C H) := ⟨s.len, s.nd, s.dis, fun a ha => let ⟨u, q1, q2, q3⟩ := s.av a ha; ⟨u, k _ _ q1 q3, q2, q3⟩, fun m a o e1 e2 => by
    have ro := s.obj m a o e1 e2
    have lw := List.all_eq_true.mp hS o (List.mem_of_getElem? e2)
    cases o with
    | lst es =>
      obtain ⟨xs, g1, g2⟩ := ro
      exact ⟨xs, k _ _ g1 rfl, RepL.part k es xs lw g2⟩, s.ok.tabs _ _ s.tabs k, s.ok⟩
  refine ⟨ds, S, φ, ψ, h1, RepL.partN k ha r, s', ?_⟩
  have ext : ∀ {φ' : List Addr} {S1 : Sto} {H2 : Hp}, Ext φ (DL.hid C H) φ' H2 → SRel M φ' ψ S1 H2 → Away C H2 → Ext φ H φ' (shw C H2) ∧ Ext φ' H2 φ' (shw C H2) ∧ SRel M φ' ψ S1 (shw C H2) := fun {φ' S1 H2} e s1 aw => by
    have kk : ∀ b u, H2 b = some u → shw C H2 b = some u := fun b u q => by
      cases h : C b with
      | none => rw [shw_out h]; exact q
      | some ob => rw [aw b ob h] at q; cases q
    have both : ∀ b o, H b = some o → (C b = none → H2 b = some o) → shw C H2 b = some o := fun b o q g => by
      cases h : C b with
      | some ob =>
        have z := sh b ob h
        rw [q] at z
        rw [shw_in h, ← Option.some.inj z]
      | none => rw [shw_out h]; exact g h
    obtain ⟨g1, g2⟩ := s1.grow kk
    refine ⟨⟨?_, fun b o q hb ht => both b o q fun hc => e.keep b o (by rw [hid_out hc]; exact q) hb ht, fun b o q hi => both b o q fun hc => e.imm b o (by rw [hid_out hc]; exact q) hi, fun b hb => ?_⟩, g1, g2⟩
    · obtain ⟨χ, rfl, hχ⟩ := e.pre
      refine ⟨χ, rfl, fun a ha => ?_⟩
      have q := hχ a ha
      cases h : C a with
      | some ob =>
        obtain ⟨m, o, _, _, ro⟩ := s1.mem (List.mem_append_right _ ha)
        obtain ⟨u, hu, _⟩ := ro.mut
        rw [aw a ob h] at hu; cases hu
      | none => rw [hid_out h] at q; exact q
    · cases h : C b with
      | some ob => rw [shw_in h]; simp
      | none =>
        rw [shw_out h]
        exact e.dom b (by rw [hid_out h]; exact hb)
  cases hf : f S ds with
  | stuck => rw [hf] at p; exact p
  | ok d S1 =>
    rw [hf] at p
    rintro φ' H2 v e ⟨s1, r1⟩ aw
    obtain ⟨g1, g2, g3⟩ := ext e s1 aw
    exact p φ' _ v g1 ⟨g3, Rep.mono s1.ok g2 _ _ r1⟩
  | err x S1 =>
    rw [hf] at p
    rintro φ' H2 cls od e s1 r1 aw
    obtain ⟨g1, g2, g3⟩ := ext e s1 aw
    exact p φ' _ cls od g1 g3 (r1.mono s1.ok g2)
end
section
variable {X : Cx} {M : Mp} {W : WX} {j : Nat} {cd : Cd} {m : Fn} {f c : Addr} {xs vs : List V} {us : List Value} {cl : List (Str × Addr)} {C : Addr → Option Obj} {pins : List (Addr × Obj)} {σ : L2.St} {H : Hp} {s : Shared} {Q : VK}
/-- a made function is called -/
theorem run_clo (Cl : ClOk X.prog X.w M X.mg X.base j cd m) (hK : X.K = M.K) (hr : Room j X.A) (tk : L2.Takes X W) (I : Inv X pins σ H s) (ca : CloAt cd H f xs cl c C) (r : Vals vs us) (hl : vs.length = cd.ps.length)
    (q : spM M (cd.ps.length + cd.fr.length) m (vs ++ xs) (hid C H) (fun v H2 => Away C H2 → Q v (shw C H2)) (fun cls d H2 => Away C H2 → W cls d σ (shw C H2))) : wpAny (model X.prog X.w) X.A (call (.ref f) us) (EP X pins σ Q) X.xe s := by
  have nf : ∀ a ob, C a = some ob → a ∉ frs X.stack := fun a ob h hm => by
    have z := I.stkFree a hm
    rw [ca.shown a ob h] at z
    cases z
  have get : ∀ a ob, C a = some ob → s.heap.get? a = some ob := fun a ob h => cellO_get (I.hok a _ (ca.shown a ob h))
  have k := hid_part ca.shown
  have e0 := env0_hid I.env0 ca.shown
  rw [hK] at e0
  have cells : CellsAt cl cd.fr (xs.map some) s.heap (hid C H) := by
    refine ⟨by rw [List.length_map]; exact ca.len, fun y a e => ?_, ca.inj, fun i y e => ?_⟩
    · obtain ⟨ob, v, h1, h2⟩ := ca.dom y a e
      exact ⟨hid_in h1, v, ob, get a ob h1, h2⟩
    · have hi : i < xs.length := by rw [ca.len]; exact (List.getElem?_eq_some_iff.mp e).1
      obtain ⟨a, ob, u, h1, h2, h3, h4⟩ := ca.has i y xs[i] e (List.getElem?_eq_getElem hi)
      refine ⟨a, h1, fun v ev => ?_⟩
      rw [List.getElem?_map, List.getElem?_eq_getElem hi] at ev
      have ev' : xs[i] = v := Option.some.inj (Option.some.inj ev)
      rw [← ev']
      exact ⟨u, h4, ob, get a ob h2, h3⟩
  refine wpAny_call (codeAny_mono (Cl.run f c cl X.A X.stack s (hid C H) us vs xs _ _ hr e0 (k _ _ ca.fn (cd.imm f cl c).2.1) (k _ _ ca.code rfl) cells r hl q) fun r s' hq => ?_)
  cases r with
  | error e => exact passAt tk σ pins H s e s' I (cx_hid I.hok ca.shown nf hq)
  | ok fl =>
    cases fl with
    | ret u => exact I.after (ce_hid I.hok ca.shown nf hq)
    | next => exact False.elim hq
    | brk => exact False.elim hq
    | cont => exact False.elim hq
theorem clo_fnAt (I : Inv X pins σ H s) (ca : CloAt cd H f xs cl c C) : PySem.W.FnAt f s.heap := by
  have h := ca.fn
  unfold Cd.fnO at h
  split at h
  · exact fnAt_of I h
  · obtain ⟨⟨pm, ctv, ho⟩, _, _⟩ := I.hok f _ h
    exact ⟨_, _, _, _, ho⟩
end
end DL
end

section
set_option Elab.async false
set_option linter.all false
set_option maxRecDepth 100000
set_option maxHeartbeats 2000000
/-! DL, part 15: x(..), x a local name that holds a def or a made function. -/
namespace DL
open PySem PySem.Spec PyProof.Rows L2 LamX NdefX
def callV (tf tc : Nat → Option Fn) (i : Nat) (ms : En → Sto → R (List D)) : En → Sto → R D := fun env S => match env[i]? with
  | some (some (.fn k)) => match tf k with
    | some f => (ms env S).bind fun ds S1 => f S1 ds
    | none => .stuck
  | some (some (.clo k es)) => match tc k with
    | some m => (ms env S).bind fun ds S1 => subK argN m S1 (ds ++ es)
    | none => .stuck
  | _ => .stuck
section
variable {X : Cx} {M : Mp} {W : WX} {j k n i : Nat} {x : Str} {p pos : Pos} {e : Expr} {es : List Expr} {ms : En → Sto → R (List D)} {tf tc : Nat → Option Fn}
/-- what the tables must bear -/
structure Vals2 (P : Program) (w : World) (M : Mp) (mg : Str → Option Value) (base : Heap) (j n : Nat) (tf tc : Nat → Option Fn) : Prop where
  fn : ∀ k f, tf k = some f → ∃ (fd : FuncData) (ps : List Str), FnOk P w M.K mg base (L2.CX P w) j (M.fa k) fd ps (spM M ps.length f) ∧ PySem.W.keepIn M.K (.ref (M.fa k)) = true ∧ Binds M.K fd ps [] ∧ ps.length = n
  clo : ∀ k m, tc k = some m → ∀ H f xs, M.clo k H f xs → ∃ (cd : Cd) (cl : List (Str × Addr)) (c : Addr) (C : Addr → Option Obj), CloAt cd H f xs cl c C ∧ ClOk P w M mg base j cd m ∧ cd.ps.length = n
theorem Post.cut {α β γ δ : Type} {ψ φ : List Addr} {H : Hp} {rp1 : Rp M ψ α β} {rp2 : Rp M ψ γ δ} {r : R α} {f : α → Sto → R γ} {Q : δ → Hp → Prop} {Wc : Value → Option Addr → Hp → Prop} (h : Post rp2 φ H (r.bind f) Q Wc) (Q1 : β → Hp → Prop)
    (k : ∀ φ1 H1 a b S1, r = .ok a S1 → Ext φ H φ1 H1 → rp1.rel H φ1 S1 H1 a b → Post rp2 φ1 H1 (f a S1) Q Wc → Q1 b H1) : Post rp1 φ H r Q1 Wc := by
  cases r with
  | ok a S => exact fun φ1 H1 b e q => k φ1 H1 a b S rfl e q (Post.ext (show Post rp2 φ H (f a S) Q Wc from h) e)
  | err x S => exact h
  | stuck => exact h
/-- the promise of a made function that is called, at what it is called with -/
theorem clo_call (hok : M.Ok) {ψ φ : List Addr} {H : Hp} {S : Sto} {ds es : List D} {vs xs : List V} {f c : Addr} {cl : List (Str × Addr)} {C : Addr → Option Obj} {cd : Cd} {m : Fn} {Q : VK} {E : XK} (ca : CloAt cd H f xs cl c C) (r : RepL M φ ψ H ds vs) (re : RepL M φ ψ H es xs) (s : SRel M φ ψ S H) (hl : ds.length = cd.ps.length)
    (p : Post (rpD M ψ) φ H (subK argN m S (ds ++ es)) Q E) : spM M (cd.ps.length + cd.fr.length) m (vs ++ xs) (hid C H) (fun v H2 => Away C H2 → Q v (shw C H2)) (fun cls d H2 => Away C H2 → E cls d (shw C H2)) := by
  have h : spM M (cd.ps.length + cd.fr.length) (subK argN m) (vs ++ xs) H Q E := ⟨ds ++ es, S, φ, ψ, by rw [List.length_append, hl, re.length, ca.len], r.append re, s, p⟩
  exact (spM.subL (ok := argN) (fun d hd => by
    unfold argL
    cases d <;> simp only [argN, isRef, Bool.true_or, Bool.false_or] at hd ⊢ <;> first | exact hd | simp [lowD] at hd) (fun _ => rfl) (.refl M) hok h).hid ca.shown
theorem de_callV (i : Nat) (B : Bd X W k) (T : Vals2 X.prog X.w M X.mg X.base j n tf tc) (hl : LenM ms n) (ha : DA X M W (e :: es) ms) (hj : j ≤ k := by first | decide | omega) (hK : X.K = M.K := by rfl) (hN : X.N[i]? = some x := by rfl) (hv : Vis X.env.scope x := by first | exact Or.inl rfl | exact Or.inr (Or.inl rfl) | exact Or.inr (Or.inr rfl))
    (hdb : (x == ("__debug__" : Str)) = false := by decide) (hcd : (x == ("__classdict__" : Str)) = false := by decide) (he : starEach (e :: es) X.env = (false, eval e X.env) :: starEach es X.env := by rfl) (hpl : (backTo pos (starEach es X.env)).any (·.1) = false := by rfl) :
    DE X M W (.Call (.Name x p) (e :: es) [] pos) (callV tf tc i ms) := by
  refine ⟨fun pins s σ H Q I h => ?_⟩
  obtain ⟨env, S, φ, ψ, er, sr, q⟩ := h
  unfold callV at q
  split at q
  · rename_i k' hk'
    obtain ⟨v, h1, h2⟩ := er.at_ i _ hk'
    simp only [Rep] at h2
    subst h2
    split at q
    · rename_i f hf
      obtain ⟨fd, ps, F, hkp, hb, hn⟩ := T.fn k' f hf
      rw [← hK] at F hkp hb
      refine wpAny_Call_Name_kw (thn ((pe_var (pos := p) hN hv hdb hcd).run pins s σ H (fun v H1 => v = .ref (M.fa k') ∧ H1 = H) I ⟨_, h1, rfl, rfl⟩) fun u s1 ⟨v, H1, I1, r1, ev, eH⟩ => ?_)
      subst ev
      rw [eH] at I1
      cases r1
      refine PySem.W.callWith_K (h₀ := X.base) I.ok.mod.kin hkp (thn (ha.run pos pins s1 σ H (fun vs H2 => spM M ps.length f vs H2 Q (WE W σ)) I1 ⟨env, S, φ, ψ, er, sr, Post.cut (rp1 := rpA M ψ) q _ fun φ1 H1 a b S1 ea e1 ⟨s1, r1⟩ p1 => ?_⟩) fun us s2 ⟨vs, H2, I2, r, q⟩ => ⟨I2.kIn, run_fnS F (B.at_ hj) hb (passAt B.tk σ) I2 r q⟩) he hpl
      exact ⟨a, S1, φ1, ψ, by rw [hl env S a S1 ea, hn], r1, s1, p1⟩
    · exact q.elim
  · rename_i k' es' hk'
    obtain ⟨v, h1, h2⟩ := er.at_ i _ hk'
    have h2' := h2
    simp only [Rep] at h2'
    obtain ⟨f, xs, rfl, h3, h4⟩ := h2'
    split at q
    · rename_i m hm
      obtain ⟨cd, cl, c, C, ca, Cl, hn⟩ := T.clo k' m hm H f xs h3
      refine wpAny_Call_Name_kw (thn ((pe_var (pos := p) hN hv hdb hcd).run pins s σ H (fun v H1 => v = .ref f ∧ H1 = H) I ⟨_, h1, rfl, rfl⟩) fun u s1 ⟨v, H1, I1, r1, ev, eH⟩ => ?_)
      subst ev
      rw [eH] at I1
      cases r1
      refine PySem.W.callWith_F (first := []) (clo_fnAt I1 ca) (thn (ha.run pos pins s1 σ H (fun vs H2 => ∃ (cd : Cd) (xs : List V) (cl : List (Str × Addr)) (c : Addr) (C : Addr → Option Obj), CloAt cd H2 f xs cl c C ∧ ClOk X.prog X.w M X.mg X.base j cd m ∧ vs.length = cd.ps.length ∧
        spM M (cd.ps.length + cd.fr.length) m (vs ++ xs) (hid C H2) (fun v H2 => Away C H2 → Q v (shw C H2)) (fun cls d H2 => Away C H2 → W cls d σ (shw C H2))) I1 ⟨env, S, φ, ψ, er, sr, Post.cut (rp1 := rpA M ψ) q _ fun φ1 H1 a b S1 ea e1 ⟨s1, r1⟩ p1 => ?_⟩) fun us s2 ⟨vs, H2, I2, r, cd, xs, cl, c, C, ca2, Cl2, hl2, q2⟩ => ⟨clo_fnAt I2 ca2, run_clo Cl2 hK (B.at_ hj) B.tk I2 ca2 r hl2 q2⟩) he hpl
      obtain ⟨cd, cl, c, C, ca2, Cl2, hn2⟩ := T.clo k' m hm H1 f xs (s1.ok.clo _ _ _ _ _ h3 e1.imm)
      have hla : a.length = cd.ps.length := by rw [hl env S a S1 ea, hn2]
      exact ⟨cd, xs, cl, c, C, ca2, Cl2, by rw [← r1.length]; exact hla, clo_call s1.ok ca2 r1 (RepL.mono s1.ok e1 _ _ h4) s1 hla p1⟩
    · exact q.elim
  · exact q.elim
/-- without arguments -/
theorem de_callV0 (i : Nat) (B : Bd X W k) (T : Vals2 X.prog X.w M X.mg X.base j 0 tf tc) (hj : j ≤ k := by first | decide | omega) (hK : X.K = M.K := by rfl) (hN : X.N[i]? = some x := by rfl) (hv : Vis X.env.scope x := by first | exact Or.inl rfl | exact Or.inr (Or.inl rfl) | exact Or.inr (Or.inr rfl))
    (hdb : (x == ("__debug__" : Str)) = false := by decide) (hcd : (x == ("__classdict__" : Str)) = false := by decide) : DE X M W (.Call (.Name x p) [] [] pos) (callV tf tc i nilM) := by
  refine ⟨fun pins s σ H Q I h => ?_⟩
  obtain ⟨env, S, φ, ψ, er, sr, q⟩ := h
  unfold callV at q
  split at q
  · rename_i k' hk'
    obtain ⟨v, h1, h2⟩ := er.at_ i _ hk'
    simp only [Rep] at h2
    subst h2
    split at q
    · rename_i f hf
      obtain ⟨fd, ps, F, hkp, hb, hn⟩ := T.fn k' f hf
      rw [← hK] at F hkp hb
      refine wpAny_Call_Name_kw (thn ((pe_var (pos := p) hN hv hdb hcd).run pins s σ H (fun v H1 => v = .ref (M.fa k') ∧ H1 = H) I ⟨_, h1, rfl, rfl⟩) fun u s1 ⟨v, H1, I1, r1, ev, eH⟩ => ?_)
      subst ev
      rw [eH] at I1
      cases r1
      exact PySem.W.callWith_K0 I1.kIn hkp (run_fnS F (B.at_ hj) hb (passAt B.tk σ) I1 .nil ⟨[], S, φ, ψ, hn.symm, .nil, sr, q⟩)
    · exact q.elim
  · rename_i k' es' hk'
    obtain ⟨v, h1, h2⟩ := er.at_ i _ hk'
    have h2' := h2
    simp only [Rep] at h2'
    obtain ⟨f, xs, rfl, h3, h4⟩ := h2'
    split at q
    · rename_i m hm
      obtain ⟨cd, cl, c, C, ca, Cl, hn⟩ := T.clo k' m hm H f xs h3
      refine wpAny_Call_Name_kw (thn ((pe_var (pos := p) hN hv hdb hcd).run pins s σ H (fun v H1 => v = .ref f ∧ H1 = H) I ⟨_, h1, rfl, rfl⟩) fun u s1 ⟨v, H1, I1, r1, ev, eH⟩ => ?_)
      subst ev
      rw [eH] at I1
      cases r1
      refine PySem.W.callWith_F0 (first := []) (clo_fnAt I1 ca) ?_
      show wpAny _ _ (call (.ref f) []) _ _ _
      exact run_clo Cl hK (B.at_ hj) B.tk I1 ca .nil (by rw [hn]; rfl) (clo_call (ds := []) sr.ok ca .nil h4 sr (by rw [hn]; rfl) q)
    · exact q.elim
  · exact q.elim
end
end DL
end

section
set_option Elab.async false
set_option linter.all false
set_option maxRecDepth 100000
set_option maxHeartbeats 2000000
/-! DL, part 16: a frame's own made functions: open ones (their cells are the frame's), closed when they are handed on. -/
namespace DL
open PySem PySem.Spec PyProof.Rows L2 LamX NdefX
/-- the map of a text: made functions by their words, tables of code objects -/
def stdM (K : PySem.W.Frag) (fa ca : Nat → Addr) (cds : Nat → Option Cd) (T : List NTab) : Mp := ⟨K, fa, ca, fun k H f xs => k < 1000 ∧ cloP cds k H f xs, TabsN T⟩
theorem tabN_keep {H H' : Hp} {P : Addr} {nm : Nat → Nat → Str} (t : TabN H P nm) (e1 : ∀ ps, H P = some (.tbl ps) → H' P = some (.tbl ps)) (e2 : ∀ c q, H c = some (CodeO c q) → H' c = some (CodeO c q)) : TabN H' P nm := by
  obtain ⟨ps, h1, h2, h3⟩ := t
  refine ⟨ps, e1 _ h1, h2, fun pos cv hc => ?_⟩
  obtain ⟨c, z1, z2⟩ := h3 pos cv hc
  exact ⟨c, z1, e2 _ _ z2⟩
theorem stdM_ok (K : PySem.W.Frag) (fa ca : Nat → Addr) (cds : Nat → Option Cd) (T : List NTab) : (stdM K fa ca cds T).Ok :=
  ⟨fun k H H' f xs h e => ⟨h.1, cloP_mono h.2 e⟩, fun H H' h e p hp => tabN_keep (h p hp) (fun ps q => e _ _ q rfl) fun c q z => e _ _ z rfl, fun H H' a u v h ha ht hi eH p hp => by
    subst eH
    refine tabN_keep (h p hp) (fun ps q => ?_) fun c q z => ?_
    · rw [upd_ne (fun z => by rw [z, ha] at q; cases q; cases ht)]; exact q
    · rw [upd_ne (fun y => by rw [y, ha] at z; cases z; cases hi)]; exact z⟩
/-- .. of a frame that makes functions -/
def openM (M : Mp) (X : Cx) (own : Nat → Option Cd) : Mp := { M with clo := fun k H f xs => if k < 1000 then M.clo k H f xs else xs = [] ∧ ∃ cd c, own (k - 1000) = some cd ∧ H f = some (cd.fnO f (cloFrom X.env.cells cd.scope.names []) c) ∧ H c = some (CodeO c cd.qual) }
theorem openM_ok {M : Mp} (ok : M.Ok) (X : Cx) (own : Nat → Option Cd) : (openM M X own).Ok :=
  ⟨fun k H H' f xs h e => by
    unfold openM at h ⊢
    dsimp only at h ⊢
    split at h
    · rename_i hk
      rw [if_pos hk]
      exact ok.clo k H H' f xs h e
    · rename_i hk
      rw [if_neg hk]
      obtain ⟨h0, cd, c, h1, h2, h3⟩ := h
      exact ⟨h0, cd, c, h1, e _ _ h2 (cd.imm f _ c).1, e _ _ h3 rfl⟩, ok.tabs, ok.put⟩
theorem openM_agr (M : Mp) (X : Cx) (own : Nat → Option Cd) : (openM M X own).Agr M := ⟨rfl, rfl, rfl, rfl, fun k H f xs hk => by
  show (if k < 1000 then M.clo k H f xs else _) ↔ _
  rw [if_pos hk]⟩

/-! ### data without closed functions -/
mutual
def parD : D → Bool
  | .non => true
  | .bl _ => true
  | .int _ => true
  | .str _ => true
  | .tup ds => parL ds
  | .lst ds => parL ds
  | .scr ds => parL ds
  | .dic _ ds => parL ds
  | .exc _ v => parD v
  | .fn _ => true
  | .clo k es => decide (1000 ≤ k)
  | .ref _ => true
def parL : List D → Bool
  | [] => true
  | d :: ds => parD d && parL ds
end
def parO : O → Bool
  | .lst ds => parL ds
section
variable {M : Mp} {X : Cx} {own : Nat → Option Cd} {φ ψ : List Addr} {H H' : Hp}
mutual
theorem Rep.par (k : ∀ b o, H b = some o → notCell o = true → H' b = some o) : ∀ (d : D) (v : V), parD d = true → Rep (openM M X own) φ ψ H d v → Rep (openM M X own) φ ψ H' d v
  | .non, v, _, h => by simpa only [Rep] using h
  | .bl b, v, _, h => by simpa only [Rep] using h
  | .int i, v, _, h => by simpa only [Rep] using h
  | .str s, v, _, h => by simpa only [Rep] using h
  | .tup ds, v, l, h => by
    simp only [Rep] at h ⊢
    simp only [parD] at l
    obtain ⟨a, xs, rfl, h1, h2⟩ := h
    refine ⟨a, xs, rfl, ?_, RepL.par k ds xs l h2⟩
    rcases h1 with (r | ⟨o, r⟩) | r
    · exact .inl (.inl (k _ _ r rfl))
    · exact .inl (.inr ⟨o, k _ _ r rfl⟩)
    · exact .inr r
  | .lst ds, v, l, h => by
    simp only [Rep] at h ⊢
    simp only [parD] at l
    obtain ⟨a, xs, rfl, h1, h2, h3, h4⟩ := h
    exact ⟨a, xs, rfl, h1, h2, k _ _ h3 rfl, RepL.par k ds xs l h4⟩
  | .scr ds, v, l, h => by
    simp only [Rep] at h ⊢
    simp only [parD] at l
    obtain ⟨a, xs, rfl, h1, h2⟩ := h
    refine ⟨a, xs, rfl, ?_, RepL.par k ds xs l h2⟩
    rcases h1 with ⟨o, r⟩ | r
    · exact .inl ⟨o, k _ _ r rfl⟩
    · exact .inr r
  | .dic ks ds, v, l, h => by
    simp only [Rep] at h ⊢
    simp only [parD] at l
    obtain ⟨a, xs, rfl, h1, h2, h3, h5, h4⟩ := h
    exact ⟨a, xs, rfl, h1, h2, k _ _ h3 rfl, h5, RepL.par k ds xs l h4⟩
  | .exc c w, v, l, h => by
    simp only [Rep] at h ⊢
    simp only [parD] at l
    obtain ⟨a, d, x, rfl, h1, h2, h3⟩ := h
    exact ⟨a, d, x, rfl, k _ _ h1 rfl, k _ _ h2 rfl, Rep.par k w x l h3⟩
  | .fn n, v, _, h => by simpa only [Rep] using h
  | .clo n ds, v, l, h => by
    simp only [parD, decide_eq_true_eq] at l
    simp only [Rep] at h ⊢
    obtain ⟨f, xs, rfl, h1, h2⟩ := h
    unfold openM at h1
    dsimp only at h1
    rw [if_neg (Nat.not_lt.mpr l)] at h1
    obtain ⟨h0, cd, c, g1, g2, g3⟩ := h1
    subst h0
    have hn : ds = [] := List.length_eq_zero_iff.mp h2.length
    subst hn
    refine ⟨f, [], rfl, ?_, .nil⟩
    unfold openM
    dsimp only
    rw [if_neg (Nat.not_lt.mpr l)]
    exact ⟨rfl, cd, c, g1, k _ _ g2 (cd.imm f _ c).2.1, k _ _ g3 rfl⟩
  | .ref n, v, _, h => by simpa only [Rep] using h
theorem RepL.par (k : ∀ b o, H b = some o → notCell o = true → H' b = some o) : ∀ (ds : List D) (vs : List V), parL ds = true → RepL (openM M X own) φ ψ H ds vs → RepL (openM M X own) φ ψ H' ds vs
  | [], vs, _, h => by simpa only [RepL] using h
  | d :: ds, vs, l, h => by
    simp only [RepL] at h ⊢
    simp only [parL, Bool.and_eq_true] at l
    obtain ⟨x, xs, rfl, h1, h2⟩ := h
    exact ⟨x, xs, rfl, Rep.par k d x l.1 h1, RepL.par k ds xs l.2 h2⟩
end
end

/-! ### handed on: closed -/
def envAt (env : En) (j : Nat) : Option D := match env[j]? with
  | some (some d) => some d
  | _ => none
def capsL (env : En) : List Nat → Option (List D)
  | [] => some []
  | j :: js => match envAt env j, capsL env js with
    | some d, some ds => some (d :: ds)
    | _, _ => none
def closeD (env : En) (cap : Nat → Option (List Nat)) : D → Option D
  | .clo k es => if k < 1000 then some (.clo k es) else match cap (k - 1000) with
    | some js => (capsL env js).map (D.clo (k - 1000))
    | none => none
  | d => some d
def chkO (r : R D) : R D := match r with
  | .ok d S => if (parD d && S.all parO) = true then .ok d S else .stuck
  | .err d S => if (parD d && S.all parO) = true then .err d S else .stuck
  | .stuck => .stuck
def callO (f : Fn) (cap : Nat → Option (List Nat)) (ms : En → Sto → R (List D)) : En → Sto → R D := fun env S => (ms env S).bind fun ds S1 => match mapO (closeD env cap) ds with
  | some ds' => chkO (subM f S1 ds')
  | none => .stuck
/-- the frame's cells as they stand -/
noncomputable def celC (X : Cx) (s : Shared) : Addr → Option Obj := fun a => open Classical in if ∃ y, X.env.cells.lookup y = some a then s.heap.get? a else none
/-- the words of the frame's made functions, where their captured names stand in it -/
structure OwnOk (X : Cx) (cds own : Nat → Option Cd) (cap : Nat → Option (List Nat)) : Prop where
  cds : ∀ k cd, own k = some cd → cds k = some cd ∧ k < 1000
  cap : ∀ k cd js, own k = some cd → cap k = some js → js.map (fun j => X.N[j]?) = cd.fr.map some
  sc : ∀ k cd, own k = some cd → ndefB X.env.scope cd.scope cd.fr = true
  all : ∀ x, X.fn x = true
section
variable {X : Cx} {pins : List (Addr × Obj)} {σ : L2.St} {H : Hp} {s : Shared}
theorem celC_get {a : Addr} {ob : Obj} (h : celC X s a = some ob) : s.heap.get? a = some ob ∧ ∃ y, X.env.cells.lookup y = some a := by
  unfold celC at h
  split at h
  · rename_i q; exact ⟨h, q⟩
  · cases h
theorem celC_at {a : Addr} {y : Str} (h : X.env.cells.lookup y = some a) : celC X s a = s.heap.get? a := by
  unfold celC
  rw [if_pos ⟨y, h⟩]
theorem celC_away (I : Inv X pins σ H s) : Away (celC X s) H := fun a ob h => by
  obtain ⟨_, y, hy⟩ := celC_get h
  exact I.freeC y a hy
theorem celC_new (I : Inv X pins σ H s) (hfn : ∀ x, X.fn x = true) {a : Addr} {ob : Obj} (h : celC X s a = some ob) : X.base.get? a = none ∧ a ∉ frs X.stack := by
  obtain ⟨_, y, hy⟩ := celC_get h
  have hs := I.ok.cab y a (hfn y) hy
  refine ⟨Heap.get?_none_of_le (Nat.le_trans I.ok.bsz hs), fun hm => ?_⟩
  rcases List.mem_cons.mp (I.stkSub a hm) with e | e
  · exact I.cne y a hy e
  · obtain ⟨_, o, ho, _⟩ := I.ok.funs.mem e
    exact absurd (Nat.lt_of_lt_of_le (Heap.lt_size ho) hs) (Nat.lt_irrefl _)
theorem shw_keep {C : Addr → Option Obj} {H : Hp} (aw : Away C H) : ∀ b u, H b = some u → shw C H b = some u := fun b u q => by
  cases h : C b with
  | none => rw [shw_out h]; exact q
  | some ob => rw [aw b ob h] at q; cases q
variable {M : Mp} {cds own : Nat → Option Cd} {cap : Nat → Option (List Nat)} {φ ψ : List Addr} {env : En}
theorem capsL_rep {H' : Hp} (er : ERel M φ ψ H' env σ) : ∀ {js : List Nat} {ds : List D}, capsL env js = some ds → ∃ xs, RepL M φ ψ H' ds xs ∧ js.map (slotAt σ) = xs.map some
  | [], ds, h => by
    simp only [capsL, Option.some.injEq] at h
    subst h
    exact ⟨[], .nil, rfl⟩
  | j :: js, ds, h => by
    simp only [capsL] at h
    split at h
    · rename_i d ds' h1 h2
      cases h
      obtain ⟨xs, r, e⟩ := capsL_rep er h2
      unfold envAt at h1
      split at h1
      · rename_i d' hd
        cases h1
        obtain ⟨v, g1, g2⟩ := er.at_ j _ hd
        exact ⟨v :: xs, .cons g2 r, by rw [List.map_cons, List.map_cons, e, slotAt_of g1]⟩
      · cases h1
    · cases h
/-- closed, with the cells shown -/
theorem close_rep (hM : ∀ k H f xs, cloP cds k H f xs → k < 1000 → M.clo k H f xs) (O : OwnOk X cds own cap) (ok : M.Ok) (I : Inv X pins σ H s) (er : ERel (openM M X own) φ ψ H env σ) {e : Ext φ H φ (shw (celC X s) H)} : ∀ {d d' : D} {v : V}, closeD env cap d = some d' → Rep (openM M X own) φ ψ H d v → Rep (openM M X own) φ ψ (shw (celC X s) H) d' v := by
  intro d d' v hc r
  have ok' := openM_ok ok X own
  have keep : ∀ {d : D}, Rep (openM M X own) φ ψ H d v → Rep (openM M X own) φ ψ (shw (celC X s) H) d v := fun {d} r => Rep.mono ok' e d v r
  cases d <;> simp only [closeD, Option.some.injEq] at hc
  case clo k es =>
    split at hc
    · cases hc; exact keep r
    · rename_i hk
      split at hc
      · rename_i js hj
        obtain ⟨ds, hd, rfl⟩ := Option.map_eq_some_iff.mp hc
        simp only [Rep] at r ⊢
        obtain ⟨f, xs0, rfl, h1, h2⟩ := r
        unfold openM at h1
        dsimp only at h1
        rw [if_neg hk] at h1
        obtain ⟨h0, cd, c, g1, g2, g3⟩ := h1
        obtain ⟨k1, k2⟩ := O.cds _ cd g1
        have hsc := O.sc _ cd g1
        have cp := Caps.made (js := js) I.ok (ndef_free hsc) (ndef_fr hsc) (O.cap _ cd js g1 hj)
        have ca := cells_of I cp
        obtain ⟨xs, rx, ex⟩ := capsL_rep (er.mono ok' e) hd
        refine ⟨f, xs, rfl, ?_, rx⟩
        unfold openM
        dsimp only
        rw [if_pos k2]
        have kp := shw_keep (celC_away I)
        refine hM _ _ _ _ ⟨cd, cloFrom X.env.cells cd.scope.names [], c, celC X s, k1, kp _ _ g2, kp _ _ g3, shown_shw, ?_, fun y a ha => ?_, ca.inj, fun i y x hy hx => ?_⟩ k2
        · have := ca.len
          rw [ex, List.length_map] at this
          exact this
        · obtain ⟨_, v, o, ho, hv⟩ := ca.all y a ha
          exact ⟨o, v, by rw [celC_at (cp.sub y a ha)]; exact ho, hv⟩
        · obtain ⟨a, ha, hv⟩ := ca.has i y hy
          obtain ⟨u, ru, o, ho, hd⟩ := hv x (by rw [ex, List.getElem?_map, hx]; rfl)
          exact ⟨a, o, u, ha, by rw [celC_at (cp.sub y a ha)]; exact ho, hd, ru⟩
      · cases hc
  all_goals (subst hc; exact keep r)
theorem closeL_rep (hM : ∀ k H f xs, cloP cds k H f xs → k < 1000 → M.clo k H f xs) (O : OwnOk X cds own cap) (ok : M.Ok) (I : Inv X pins σ H s) (er : ERel (openM M X own) φ ψ H env σ) (e : Ext φ H φ (shw (celC X s) H)) : ∀ {ds ds' : List D} {vs : List V}, mapO (closeD env cap) ds = some ds' → RepL (openM M X own) φ ψ H ds vs → RepL (openM M X own) φ ψ (shw (celC X s) H) ds' vs :=
  fun h r => mapO_rep (fun d d' v hc hr => close_rep (e := e) hM O ok I er hc hr) h r
end
section
variable {X : Cx} {M : Mp} {W : WX} {x : Str} {p pos : Pos} {e : Expr} {es : List Expr} {ms : En → Sto → R (List D)} {k j : Nat} {st : Stmt} {ps : List Str} {f : Fn} {cds own : Nat → Option Cd} {cap : Nat → Option (List Nat)}
/-- f(e, ..), made functions among what is handed on -/
theorem de_callO (O : OwnOk X cds own cap) (hM : ∀ k H f xs, cloP cds k H f xs → k < 1000 → M.clo k H f xs) (ok : M.Ok) (B : Bd X W k) (F : FOk X.prog X.w M X.mg X.base j x st ps f) (ha : DA X (openM M X own) W (e :: es) ms) (hj : j ≤ k := by first | decide | omega) (hg : Gl X x := by rfl) (hK : X.K = M.K := by rfl)
    (hl : LenM ms ps.length := by repeat first | exact lenM_nil | apply lenM_cons)
    (hdb : (x == ("__debug__" : Str)) = false := by decide) (he : starEach (e :: es) X.env = (false, eval e X.env) :: starEach es X.env := by rfl) (hpl : (backTo pos (starEach es X.env)).any (·.1) = false := by rfl) :
    DE X (openM M X own) W (.Call (.Name x p) (e :: es) [] pos) (callO f cap ms) := by
  obtain ⟨fa, fd, h1, h2, h3, h4⟩ := F.ex
  refine ⟨fun pins s σ H Q I h => ?_⟩
  obtain ⟨env, S, φ, ψ, er, sr, q⟩ := h
  unfold callO at q
  have hk := h1.kp
  rw [← hK] at h2 hk h4
  refine wpAny_Call_Name_kw (ld_glob I hg h3 ?_ hdb)
  refine PySem.W.callWith_K (h₀ := X.base) I.ok.mod.kin hk (thn (ha.run pos pins s σ H (fun vs H1 => ∃ φ1 ψ1 ds ds' S1, vs.length = ps.length ∧ RepL (openM M X own) φ1 ψ1 H1 ds vs ∧ SRel (openM M X own) φ1 ψ1 S1 H1 ∧ ERel (openM M X own) φ1 ψ1 H1 env σ ∧ mapO (closeD env cap) ds = some ds' ∧ Post (rpD (openM M X own) ψ1) φ1 H1 (chkO (subM f S1 ds')) Q (WE W σ)) I ⟨env, S, φ, ψ, er, sr, Post.cut (rp1 := rpA (openM M X own) ψ) q _ fun φ1 H1 a b S1 ea e1 ⟨s1, r1⟩ p1 => ?_⟩) fun us s1 ⟨vs, H1, I1, r, q⟩ => ⟨I1.kIn, ?_⟩) he hpl
  · split at p1
    · rename_i ds' hds
      exact ⟨φ1, ψ, a, ds', S1, by rw [← r1.length]; exact hl env S a S1 ea, r1, s1, er.mono s1.ok e1, hds, p1⟩
    · exact p1.elim
  · obtain ⟨φ1, ψ1, ds, ds', S1, hlen, r1, s1r, er1, hds, p1⟩ := q
    have aw := celC_away I1
    have get : ∀ a ob, celC X s1 a = some ob → s1.heap.get? a = some ob := fun a ob h => (celC_get h).1
    have nb : ∀ a ob, celC X s1 a = some ob → X.base.get? a = none := fun a ob h => (celC_new I1 O.all h).1
    have nf : ∀ a ob, celC X s1 a = some ob → a ∉ frs X.stack := fun a ob h => (celC_new I1 O.all h).2
    obtain ⟨eg, sg⟩ := s1r.grow (shw_keep aw)
    have r2 := closeL_rep hM O ok I1 er1 eg hds r1
    have back : ∀ {φ' : List Addr} {S2 : Sto} {H2 : Hp}, Ext φ1 (shw (celC X s1) H1) φ' H2 → SRel (openM M X own) φ' ψ1 S2 H2 → Shown (celC X s1) H2 → S2.all parO = true → Ext φ1 H1 φ' (hid (celC X s1) H2) ∧ SRel (openM M X own) φ' ψ1 S2 (hid (celC X s1) H2) := fun {φ' S2 H2} e2 s2 sh hp => by
      have kk := hid_part sh
      have inn : ∀ {b o}, H1 b = some o → celC X s1 b = none := fun {b o} hb => by
        cases h : celC X s1 b with
        | none => rfl
        | some ob => rw [aw b ob h] at hb; cases hb
      refine ⟨⟨?_, fun b o q hb ht => ?_, fun b o q hi => ?_, fun b hb => ?_⟩, s2.len, s2.nd, s2.dis, fun a ha => ?_, fun n a o z1 z2 => ?_, s2.ok.tabs _ _ s2.tabs kk, s2.ok⟩
      · obtain ⟨χ, rfl, hχ⟩ := e2.pre
        refine ⟨χ, rfl, fun a ha => ?_⟩
        have z := hχ a ha
        cases h : H1 a with
        | none => rfl
        | some o => rw [shw_keep aw a o h] at z; cases z
      · rw [hid_out (inn q)]
        exact e2.keep b o (shw_keep aw b o q) hb ht
      · rw [hid_out (inn q)]
        exact e2.imm b o (shw_keep aw b o q) hi
      · cases h : H1 b with
        | none => exact absurd h hb
        | some o =>
          rw [hid_out (inn h)]
          exact e2.dom b (by rw [shw_keep aw b o h]; simp)
      · obtain ⟨u, q1, q2, q3⟩ := s2.av a ha
        exact ⟨u, kk _ _ q1 q3, q2, q3⟩
      · have lw := List.all_eq_true.mp hp o (List.mem_of_getElem? z2)
        have ro := s2.obj n a o z1 z2
        cases o with
        | lst es =>
          obtain ⟨xs, g1, g2⟩ := ro
          exact ⟨xs, kk _ _ g1 rfl, RepL.par kk es xs lw g2⟩
    have sp : spM (openM M X own) ps.length (subM f) vs (shw (celC X s1) H1) (fun v H2 => Shown (celC X s1) H2 → Q v (hid (celC X s1) H2)) (fun cls d H2 => Shown (celC X s1) H2 → W cls d σ (hid (celC X s1) H2)) := by
      refine ⟨ds', S1, φ1, ψ1, by rw [r2.length]; exact hlen, r2, sg, ?_⟩
      unfold chkO at p1
      cases hf : subM f S1 ds' with
      | stuck => rw [hf] at p1; exact p1
      | ok d S2 =>
        rw [hf] at p1
        dsimp only at p1
        split at p1
        · rename_i hc
          simp only [Bool.and_eq_true] at hc
          rintro φ' H2 v e2 ⟨s2, r3⟩ sh
          obtain ⟨z1, z2⟩ := back e2 s2 sh hc.2
          exact p1 φ' _ v z1 ⟨z2, Rep.par (hid_part sh) d v hc.1 r3⟩
        · exact p1.elim
      | err d S2 =>
        rw [hf] at p1
        dsimp only at p1
        split at p1
        · rename_i hc
          simp only [Bool.and_eq_true] at hc
          rintro φ' H2 cls od e2 s2 r3 sh
          obtain ⟨z1, z2⟩ := back e2 s2 sh hc.2
          refine p1 φ' _ cls od z1 z2 ?_
          cases d <;> try exact r3.elim
          obtain ⟨q1, dd, y, q2, q3, q4⟩ := r3
          exact ⟨q1, dd, y, q2, hid_part sh _ _ q3 rfl, Rep.par (hid_part sh) _ _ (by simpa only [parD] using hc.1) q4⟩
        · exact p1.elim
    have sp2 := spM.sub (openM_agr M X own) ok sp
    have hl2 : (us ++ []).length = ps.length := by rw [List.append_nil, ← r.length]; exact hlen
    refine wpAny_call (codeAny_mono (h2.run X.A X.stack s1 (shw (celC X s1) H1) ⟨us, []⟩ us vs _ _ (B.at_ hj) (env0_shw I1.env0 aw get nb nf) (by simpa using h4 s1 us I1.kIn hl2) r sp2) fun r s' hq => ?_)
    cases r with
    | error e => exact passAt B.tk σ pins H1 s1 e s' I1 (cx_shw aw get nf hq)
    | ok fl =>
      cases fl with
      | ret u => exact I1.after (ce_shw aw get nf hq)
      | next => exact False.elim hq
      | brk => exact False.elim hq
      | cont => exact False.elim hq
end
end DL
end

section
set_option Elab.async false
set_option linter.all false
set_option maxRecDepth 100000
set_option maxHeartbeats 2000000
/-! DL, part 17: nested defs and lambdas are made; defs that make them. -/
namespace DL
open PySem PySem.Spec PyProof.Rows L2 LamX NdefX
section
variable {M : Mp} {φ ψ : List Addr} {S : Sto} {H H' : Hp}
/-- tables grow -/
theorem SRel.tab (s : SRel M φ ψ S H) (k : ExtN H H') (n : ∀ b, H' b = none → H b = none) (t : M.tabs H') : Ext φ H φ H' ∧ SRel M φ ψ S H' := by
  have kk : ∀ b u, H b = some u → notTbl u = true → H' b = some u := fun b u q ht => k b u q fun ps z => by rw [z] at ht; cases ht
  have e : Ext φ H φ H' := ⟨⟨[], by simp, by simp⟩, fun b o h _ ht => kk b o h ht, fun b o h hi => kk b o h (by cases o <;> first | rfl | cases hi), fun b hb => fun z => hb (n b z)⟩
  exact ⟨e, s.len, s.nd, s.dis, fun a ha => let ⟨u, q1, q2⟩ := s.av a ha; ⟨u, kk _ _ q1 q2.1, q2⟩, fun n a o h1 h2 => by
    have ro := s.obj n a o h1 h2
    obtain ⟨u, hu, _, ht, _⟩ := ro.mut
    exact ro.mono s.ok e fun w hw => by
      rw [hu] at hw
      cases hw
      exact kk a _ hu ht, t, s.ok⟩
end
section
variable {X : Cx} {pins : List (Addr × Obj)} {σ : L2.St} {H : Hp} {s : Shared}
theorem inv_lam {cd : Cd} {e : Expr} {cl : List (Str × Addr)} {c : Addr} {o : Obj} {t' : Nat} {pm ctv : Value} (I : Inv X pins σ H s) (ho : o = PySem.W.kla_obj cd.name cd.qual cd.params e cd.scope cl pm c ctv) :
    Inv X pins σ (upd H s.heap.objs.size (LamO s.heap.objs.size cd e cl c)) { s with heap := s.heap.push o, toks := t' } := by
  subst ho
  refine I.laid (a := s.heap.objs.size) (fun b u e => Heap.get?_push_of_some _ e) (Nat.le_refl _) ?_
  have e : (s.heap.push (PySem.W.kla_obj cd.name cd.qual cd.params e cd.scope cl pm c ctv)).get? s.heap.objs.size = some (PySem.W.kla_obj cd.name cd.qual cd.params e cd.scope cl pm c ctv) := Heap.get?_push_size _ rfl
  exact ⟨⟨pm, ctv, e⟩, ⟨_, e⟩, fun h1 h2 ⟨p, t, z⟩ st => ⟨p, t, st _ z⟩⟩
/-- the lambda's object is made: its code object is new, or found in the table -/
theorem lam_makeN {T : List NTab} {nm : Nat → Nat → Str} {c P : Addr} {cd : Cd} {body : Expr} {pos : Pos} {E : Value → Shared → Prop} {Q : Value → Shared → Prop} (I : Inv X pins σ H s) (TB : TabB X.base X.mg c P) (hcode : X.env.code = .ref c)
    (hm : (P, nm) ∈ T) (hn : nm pos.line pos.col = cd.qual) (hu : ∀ p ∈ T, p.1 = P → p.2 = nm) (hT : TabsN T H) (hdef : defaultsOf cd.params X.env = ([], [])) (hnm : cd.name = "<lambda>") (hq : X.env.qual ++ "<lambda>" = cd.qual) (hb : cd.body = .inr body) (hfree : ∀ y ∈ cd.scope.names, y.2 = .free → ∃ c, X.env.cells.lookup y.1 = some c)
    (h : ∀ (f c' : Addr) (H1 : Hp) (s' : Shared), Inv X pins σ H1 s' → ExtN H H1 → (∀ b, H1 b = Option.none → H b = Option.none) → TabsN T H1 → H1 f = some (cd.fnO f (cloFrom X.env.cells cd.scope.names []) c') → H1 c' = some (CodeO c' cd.qual) → Q (.ref f) s') :
    wpAny (model X.prog X.w) X.A (eval (.Lambda cd.params body cd.scope pos) X.env) Q E s := by
  obtain ⟨ps, hP, ht, ha⟩ := (show TabN H P nm from hT _ hm)
  refine PySem.W.kla_eval hdef ?_
  rw [hq, ← hnm]
  have bP : s.heap.BuiltinsAt X.mg P := TB.bm.keeps I.bk
  have hP' : s.heap.get? P = some { cls := .none, data := .fields ps } := I.hok P _ hP
  have hfn : ∀ f cl c, cd.fnO f cl c = LamO f cd body cl c := fun f cl c => by unfold Cd.fnO; rw [hb]
  cases hc : codeAmong pos ps.toList with
  | none =>
    refine PySem.W.kla_makeFunction (mg := X.mg) (c := c) (P := P) (ps := ps) (closure_ok hfree) I.ok.glob (I.mod.glob.keeps I.bk) hcode (TB.code.keeps I.bk) hP' ht hc TB.gP bP fun c' ctv h' tk hx hge hlt hrec htb => ?_
    obtain ⟨c2, oc, vs, t, e2, hoc, hd, hv⟩ := hrec
    cases e2
    have nC : H c' = none := I.hok.fresh hge
    have I1 := inv_table (t' := tk) (more := #[rawInt pos.line, rawInt pos.col, .ref c']) (h' := h') I hP (fun b o hb e => hx b o hb e) htb hge ⟨oc, vs, t, hoc, hd, hv⟩
    have hE : ExtN H (upd (upd H P (.tbl (ps ++ #[rawInt pos.line, rawInt pos.col, .ref c']))) c' (CodeO c' cd.qual)) := fun b o e n => by
      rw [upd_ne (ne_of_none e nC), upd_ne (fun z => n ps (Option.some.inj (e.symm.trans (by rw [z]; exact hP))))]
      exact e
    have eL : (ps ++ #[rawInt pos.line, rawInt pos.col, .ref c']).toList = ps.toList ++ [rawInt pos.line, rawInt pos.col, .ref c'] := by simp
    have T1 : TabsN T (upd (upd H P (.tbl (ps ++ #[rawInt pos.line, rawInt pos.col, .ref c']))) c' (CodeO c' cd.qual)) := fun p hp => by
      by_cases hb : p.1 = P
      · rw [hu p hp hb, hb]
        refine ⟨_, by rw [upd_ne (ne_of_none hP nC), upd_same], by rw [eL]; exact PySem.TriplesOk_snoc _ _ _ _ ht, fun p' cv hcv => ?_⟩
        rw [eL] at hcv
        rcases among_app2 _ ht hcv with z | ⟨z, z1, z2⟩
        · obtain ⟨c0, e1, e2⟩ := ha p' cv z
          exact ⟨c0, e1, hE _ _ e2 codeO_ne⟩
        · refine ⟨c', z, ?_⟩
          rw [← z1, ← z2, hn]
          exact upd_same
      · obtain ⟨ps', a1, a2, a3⟩ := hT p hp
        refine ⟨ps', by rw [upd_ne (ne_of_none a1 nC), upd_ne hb]; exact a1, a2, fun p' cv hcv => ?_⟩
        obtain ⟨c0, e1, e2⟩ := a3 p' cv hcv
        exact ⟨c0, e1, hE _ _ e2 codeO_ne⟩
    have nF := I1.hok.fresh (Nat.le_refl _)
    have I2 := inv_lam (cd := cd) (e := body) (cl := cloFrom X.env.cells cd.scope.names []) (c := c') (t' := tk) (pm := (X.mg "__name__").getD .none) (ctv := ctv) I1 rfl
    refine h h'.objs.size c' _ _ I2 (fun b o e n => ?_) (fun b e => upd_none (upd_none (upd_none e))) (T1.ext fun b o e => ?_) ?_ ?_
    · have e1 := hE b o e n
      exact (upd_ne (ne_of_none e1 nF)).trans e1
    · exact (upd_ne (ne_of_none e nF)).trans e
    · rw [hfn]; exact upd_same
    · exact (upd_ne (Nat.ne_of_lt hlt)).trans upd_same
  | some cv =>
    obtain ⟨c', e, hco⟩ := ha pos cv hc
    subst e
    rw [hn] at hco
    refine PySem.W.kla_makeFunctionHit (mg := X.mg) (c := c) (P := P) (ps := ps) (closure_ok hfree) I.ok.glob (I.mod.glob.keeps I.bk) hcode (TB.code.keeps I.bk) hP' ht hc bP fun ctv h' tk hx hsz => ?_
    have I1 : Inv X pins σ H { s with heap := h', toks := tk } := I.kept hx
    have nF : H h'.objs.size = none := I1.hok.fresh (Nat.le_refl _)
    have I2 := inv_lam (cd := cd) (e := body) (cl := cloFrom X.env.cells cd.scope.names []) (c := c') (t' := tk) (pm := (X.mg "__name__").getD .none) (ctv := ctv) I1 rfl
    refine h h'.objs.size c' _ _ I2 (fun b o e n => ?_) (fun b e => upd_none e) (hT.ext fun b o e => ?_) ?_ ?_
    · exact (upd_ne (ne_of_none e nF)).trans e
    · exact (upd_ne (ne_of_none e nF)).trans e
    · rw [hfn]; exact upd_same
    · exact (upd_ne (ne_of_none hco nF)).trans hco
end
/-- the facts of a frame that makes functions: its code object at c, the table at P among T -/
structure Mk (X : Cx) (M : Mp) (T : List NTab) (c P : Addr) (nm : Nat → Nat → Str) : Prop where
  tabs : M.tabs = TabsN T
  tb : TabB X.base X.mg c P
  code : X.env.code = .ref c
  mem : (P, nm) ∈ T
  one : ∀ p ∈ T, p.1 = P → p.2 = nm
def cloM (k : Nat) : En → Sto → R D := cM (.clo (1000 + k) [])
section
variable {X : Cx} {M : Mp} {W : WX} {T : List NTab} {c P : Addr} {nm : Nat → Nat → Str} {own : Nat → Option Cd} {cd : Cd} {pos : Pos}
theorem Rep.openClo {φ ψ : List Addr} {H : Hp} {k : Nat} {f c' : Addr} (ho : own k = some cd) (h1 : H f = some (cd.fnO f (cloFrom X.env.cells cd.scope.names []) c')) (h2 : H c' = some (CodeO c' cd.qual)) : Rep (openM M X own) φ ψ H (.clo (1000 + k) []) (.ref f) := by
  simp only [Rep]
  refine ⟨f, [], rfl, ?_, .nil⟩
  unfold openM
  dsimp only
  rw [if_neg (by omega), Nat.add_sub_cancel_left]
  exact ⟨rfl, cd, c', ho, h1, h2⟩
/-- lambda: body -/
theorem de_lam (k : Nat) {body : Expr} (K : Mk X M T c P nm) (ho : own k = some cd) (hsc : ndefB X.env.scope cd.scope cd.fr = true) (hb : cd.body = .inr body) (hn : nm pos.line pos.col = cd.qual := by rfl) (hdef : defaultsOf cd.params X.env = ([], []) := by rfl)
    (hnm : cd.name = "<lambda>" := by rfl) (hq : X.env.qual ++ "<lambda>" = cd.qual := by rfl) : DE X (openM M X own) W (.Lambda cd.params body cd.scope pos) (cloM k) := by
  refine ⟨fun pins s σ H Q I h => ?_⟩
  obtain ⟨env, S, φ, ψ, er, sr, p⟩ := h
  have hfree := ndef_free hsc
  have tb : TabsN T H := by
    have z := sr.tabs
    have e : (openM M X own).tabs = TabsN T := K.tabs
    rw [e] at z
    exact z
  refine lam_makeN I K.tb K.code K.mem hn K.one tb hdef hnm hq hb (fun y hy e => (hfree y hy e).elim (fun z => I.ok.has _ (.inl z)) fun z => I.ok.has _ (.inr z)) fun f c' H1 s' I1 eN nn T1 f1 c1 => ?_
  obtain ⟨e, s1⟩ := sr.tab eN nn (by
    have e : (openM M X own).tabs = TabsN T := K.tabs
    rw [e]
    exact T1)
  exact ⟨.ref f, H1, I1, rfl, (p.ext e).retD s1 (Rep.openClo ho f1 c1)⟩
/-- def name(..): .. -/
theorem ds_ndef (i k : Nat) {body : List Stmt} (K : Mk X M T c P nm) (ho : own k = some cd) (hsc : ndefB X.env.scope cd.scope cd.fr = true) (hb : cd.body = .inl body) (hN : X.N.Nodup) (hi : X.N[i]? = some cd.name := by rfl) (hn : nm pos.line pos.col = X.env.qual ++ cd.name := by rfl) (hq : X.env.qual ++ cd.name = cd.qual := by rfl)
    (hd0 : cd.params.defaults = [] := by rfl) (hk0 : cd.params.kw_defaults = [] := by rfl) (ha : annTrees cd.params none X.env = [] := by rfl) (hx : Loc X.env.scope cd.name := by first | exact Or.inl rfl | exact Or.inr rfl) (hf : X.fn cd.name = true ∨ X.env.scope.names.lookup cd.name = some .local := by first | exact Or.inl rfl | exact Or.inr rfl) :
    DS X (openM M X own) W (.FunctionDef cd.name cd.params body [] none [] cd.scope none cd.name pos) (setM i (cloM k)) := by
  refine ps_imp (ps_ndefM (T := T) K.tb K.code K.mem hn K.one (ndef_free hsc) hd0 hk0 ha hN hi hx hf) fun E σ H ⟨env, S, φ, ψ, er, sr, p⟩ => ?_
  have et : (openM M X own).tabs = TabsN T := K.tabs
  refine ⟨by have z := sr.tabs; rw [et] at z; exact z, fun f c' H1 eN nn T1 f0 f1 c1 => ?_⟩
  obtain ⟨e, s1⟩ := sr.tab eN nn (by rw [et]; exact T1)
  have hst : cd.stmts = body := by unfold Cd.stmts; rw [hb]
  have f1' : H1 f = some (cd.fnO f (cloFrom X.env.cells cd.scope.names []) c') := by
    rw [f1]
    unfold Cd.fnO
    rw [hb]
    dsimp only [Cd.nf]
    rw [hst, hq]
  have c1' : H1 c' = some (CodeO c' cd.qual) := by rw [← hq]; exact c1
  exact (p.ext e).toNx s1 ((er.mono sr.ok e).set (Rep.openClo ho f1' c1'))
end
/-- a def with its code object at c -/
structure FunC (K : PySem.W.Frag) (x : Str) (st : Stmt) (fa c : Addr) (fd : FuncData) : Prop where
  ex : ∃ (oc : Value) (od : Option Addr) (dV kV doc pm : Value) (an : Option Addr) (ct : Value) (osl : Array (Option Value)),
    fd = PySem.W.fnOf x x (C8.fnArgs st) (C8.fnBody st) (C8.fnScope st) dV kV doc pm an (.ref c) ct ∧ K.lookup fa = some ⟨oc, od, .func fd, osl⟩ ∧ PySem.W.codeIn K (.ref c) x = true
  std : FnD K x st fa fd
section
variable {P : Program} {w : World} {M : Mp} {mg : Str → Option Value} {base : Heap} {N ps : List Str} {k : Nat} {m : FM} {x : Str} {st : Stmt} {fa c : Addr} {fd : FuncData}
/-- THE RULE for a def that makes functions -/
theorem fn_dlC {own : Nat → Option Cd} (F : FunC M.K x st fa c fd) (S : FnScope N ps (C8.fnScope st)) (ok : M.Ok)
    (hb : ∀ (X : Cx) (A : Around) (outer : List Env) (s : Shared) (H : Hp) (E : XK), X = cxOf (L2.CX P w) P w M.K mg base N x (C8.fnScope st) fa (.ref c) A outer s H E → Bd (cxOf (L2.CX P w) P w M.K mg base N x (C8.fnScope st) fa (.ref c) A outer s H E) (wE E) k → Own (cxOf (L2.CX P w) P w M.K mg base N x (C8.fnScope st) fa (.ref c) A outer s H E) →
      DSs (cxOf (L2.CX P w) P w M.K mg base N x (C8.fnScope st) fa (.ref c) A outer s H E) (openM M (cxOf (L2.CX P w) P w M.K mg base N x (C8.fnScope st) fa (.ref c) A outer s H E) own) (wE E) (C8.fnBody st) m) :
    FnOk P w M.K mg base (L2.CX P w) (k + 1) fa fd ps (spM M ps.length (subM (bodyM N.length m))) := by
  obtain ⟨oc, od, dV, kV, doc, pm, an, ct, osl, rfl, lk, hcd⟩ := F.ex
  refine fn_of lk hcd S (fun vs H Q E h => h.len) fun A outer s H vs Q E hr h => ⟨_, hb _ A outer s H E rfl ⟨hr, L2.takes_of (E := E) rfl rfl rfl rfl, rfl, S.nd⟩ (L2.passes_of rfl), ?_⟩
  have h' : spM (openM M (cxOf (L2.CX P w) P w M.K mg base N x (C8.fnScope st) fa (.ref c) A outer s H E) own) ps.length (bodyM N.length m) vs H Q E := h.sub (openM_agr M _ own).symm (openM_ok ok _ own)
  obtain ⟨ds, S, φ, ψ, h1, r, sr, p⟩ := h'
  exact ⟨_, S, φ, ψ, ERel.start r, sr, bodyM_post p⟩
end
end DL
end

section
set_option Elab.async false
set_option linter.all false
set_option maxRecDepth 100000
set_option maxHeartbeats 2000000
/-! DL, part 18: short forms for made functions; recursion. -/
namespace DL
open PySem PySem.Spec PyProof.Rows L2 LamX NdefX
/-! ### where a lambda stands in the text -/
def nthS (i : Nat) (l : List Stmt) : Stmt := l.getD i (.Pass ⟨0, 0, 0, 0⟩)
def nthE (i : Nat) (l : List Expr) : Expr := l.getD i (.Constant .none 0 ⟨0, 0, 0, 0⟩)
def bodyS : Stmt → List Stmt
  | .For _ _ b _ _ => b
  | .While _ b _ _ => b
  | .If _ b _ _ => b
  | .FunctionDef _ _ b _ _ _ _ _ _ _ => b
  | _ => []
def valS : Stmt → Expr
  | .Assign _ e _ => e
  | .Expr e _ => e
  | .Return (some e) _ => e
  | .If e _ _ _ => e
  | _ => .Constant .none 0 ⟨0, 0, 0, 0⟩
def subE : Expr → Expr
  | .Subscript e _ _ => e
  | e => e
def argsE : Expr → List Expr
  | .Call _ es _ _ => es
  | .List es _ => es
  | .Tuple es _ _ => es
  | _ => []
def lamA : Expr → Arguments
  | .Lambda a _ _ _ => a
  | _ => C8.fnArgs (.Pass ⟨0, 0, 0, 0⟩)
def lamB : Expr → Expr
  | .Lambda _ b _ _ => b
  | e => e
def lamC : Expr → Scope
  | .Lambda _ _ s _ => s
  | _ => C8.fnScope (.Pass ⟨0, 0, 0, 0⟩)
def cdDef (name qual : Str) (st : Stmt) (ps fr N : List Str) : Cd := ⟨name, qual, C8.fnArgs st, C8.fnScope st, .inl (C8.fnBody st), ps, fr, N⟩
def cdLam (qual : Str) (e : Expr) (fr N : List Str) : Cd := ⟨"<lambda>", qual, lamA e, lamC e, .inr (lamB e), [], fr, N⟩
/-! ### tables for x(..) -/
def insT (k : Nat) (f : Fn) (t : Nat → Option Fn) : Nat → Option Fn := fun i => if i = k then some f else t i
def noTb : Nat → Option Fn := fun _ => none
section
variable {P : Program} {w : World} {M : Mp} {mg : Str → Option Value} {base : Heap} {j n : Nat} {tf tc : Nat → Option Fn}
theorem vals2_nil : Vals2 P w M mg base j n noTb noTb := ⟨fun _ _ h => (by cases h), fun _ _ h => (by cases h)⟩
theorem vals2_fn (k : Nat) {x : Str} {st : Stmt} {ps : List Str} {f : Fn} {i : Nat} (F : FOk P w M mg base i x st ps f) (hm : mg x = some (.ref (M.fa k))) (h : Vals2 P w M mg base j n tf tc) (hi : i ≤ j := by first | decide | omega) (hn : ps.length = n := by rfl) : Vals2 P w M mg base j n (insT k f tf) tc := by
  refine ⟨fun k' f' e => ?_, h.clo⟩
  unfold insT at e
  split at e
  · rename_i hk
    cases e
    subst hk
    obtain ⟨fa, fd, h1, h2, h3, h4⟩ := F.ex
    rw [hm] at h3
    cases h3
    exact ⟨fd, ps, h2.mono hi, h1.kp, h4, hn⟩
  · exact h.fn k' f' e
theorem vals2_clo (k : Nat) {cds : Nat → Option Cd} {cd : Cd} {m : Fn} {i : Nat} (hM : ∀ k H f xs, M.clo k H f xs ↔ k < 1000 ∧ cloP cds k H f xs) (C : ClOk P w M mg base i cd m) (h : Vals2 P w M mg base j n tf tc) (hk : cds k = some cd := by rfl) (hi : i ≤ j := by first | decide | omega) (hn : cd.ps.length = n := by rfl) : Vals2 P w M mg base j n tf (insT k m tc) := by
  refine ⟨h.fn, fun k' m' e H f xs hc => ?_⟩
  unfold insT at e
  split at e
  · rename_i hk'
    cases e
    subst hk'
    obtain ⟨_, cd', cl, c, C', h1, h2⟩ := (hM _ H f xs).mp hc
    rw [hk] at h1
    cases h1
    exact ⟨cd, cl, c, C', h2, C.mono hi, hn⟩
  · exact h.clo k' m' e H f xs hc
/-! ### recursion -/
theorem FOk.zero {x : Str} {st : Stmt} {ps : List Str} {fa : Addr} {fd : FuncData} (h : FnD M.K x st fa fd) (hm : mg x = some (.ref fa)) (hb : Binds M.K fd ps []) : FOk P w M mg base j x st ps (fun _ _ => .stuck) :=
  ⟨fa, fd, h, ⟨fun vs H Q E q => q.len, fun A outer s H args us vs Q E _ _ _ _ ⟨_, _, _, _, _, _, _, p⟩ => p.elim⟩, hm, hb⟩
end
end DL
end

section
set_option Elab.async false
set_option linter.all false
set_option maxRecDepth 100000
set_option maxHeartbeats 2000000
/-! DL, part 19: keywords, list(range), reversed tuples, str(int), written dicts, stars, dict displays. -/
namespace DL
open PySem PySem.Spec PyProof.Rows L2 LamX NdefX
/-! ### keywords -/
def DK (X : Cx) (M : Mp) (W : WX) (ks : List Keyword) (m : En → Sto → R (List D)) : Prop := PK X ks (rdA M W m)
def kwM (ma mb : En → Sto → R (List D)) : En → Sto → R (List D) := fun env S => (ma env S).bind fun ds S1 => (mb env S1).bind fun es S2 => .ok (ds ++ es) S2
section
variable {X : Cx} {M : Mp} {W : WX} {x : Str} {p pos kpos : Pos} {e : Expr} {es : List Expr} {kws : List Keyword} {m : En → Sto → R D} {ms mk : En → Sto → R (List D)} {k j : Nat} {st : Stmt} {ps ks : List Str} {f : DL.Fn} {nm : Option Str}
theorem dk_nil : DK X M W [] nilM := ⟨fun pos pins s σ H Q I h => pk_nil.run pos pins s σ H Q I (by
  obtain ⟨env, S, φ, ψ, er, sr, q⟩ := h
  exact Post.retA q sr .nil)⟩
theorem dk_cons (ha : DE X M W e m) (hr : DK X M W kws mk) : DK X M W (⟨nm, e, kpos⟩ :: kws) (consM m mk) := ⟨fun pos pins s σ H Q I h => (pk_cons ha hr).run pos pins s σ H Q I (by
  refine rd_bindD h _ fun env φ1 ψ d v S1 H1 er sr r p => ?_
  refine ⟨env, S1, φ1, ψ, er, sr, (Post.bind (rp1 := rpA M ψ) p).imp ?_⟩
  rintro vs H2 ⟨φ2, ds, S2, e2, ⟨s2, r2⟩, p2⟩
  exact p2.retA s2 (.cons (Rep.mono s2.ok e2 _ _ r) r2))⟩
/-- how keywords are bound behind positional values -/
def KwB (st : Stmt) (x : Str) (ps ks : List Str) (n : Nat) : Prop := ∀ (kV doc pm : Value) (an : Option Addr) (cdv ct : Value) (us ws : List Value), us.length = n → ws.length = ks.length → bindArgs (PySem.W.fnOf x x (C8.fnArgs st) (C8.fnBody st) (C8.fnScope st) .none kV doc pm an cdv ct) ⟨us, ks.zip ws⟩ = pure (ps.zip (us ++ ws))
theorem KwB.to {K : PySem.W.Frag} {fa : Addr} {fd : FuncData} {n : Nat} (h : KwB st x ps ks n) (F : FnD K x st fa fd) (s : Shared) {us ws : List Value} (h1 : us.length = n) (h2 : ws.length = ks.length) : BindsTo s fd ⟨us, ks.zip ws⟩ (ps.zip (us ++ ws)) := by
  obtain ⟨oc, od, dV, kV, doc, pm, an, cdv, ct, osl, rfl, lk, hcd, hD, hK⟩ := F.ex
  rcases hD with ⟨_, rfl⟩ | ⟨e, _⟩
  · exact .of_eq (h kV doc pm an cdv ct us ws h1 h2)
  · exact absurd rfl e
theorem run_fnK {pins : List (Addr × Obj)} {σ : L2.St} {H : Hp} {s : Shared} {Q : VK} {us ws : List Value} {vs zs : List V} {fa : Addr} {fd : FuncData} {n : Nat} {E : XK} (F : FnOk X.prog X.w X.K X.mg X.base (L2.CX X.prog X.w) k fa fd ps (spM M ps.length f)) (D : FnD X.K x st fa fd) (hb : KwB st x ps ks n) (hr : Room k X.A) (hx : PassesAt (L2.CX X.prog X.w) X σ E)
    (I : Inv X pins σ H s) (r : Vals vs us) (rz : Vals zs ws) (h1 : vs.length = n) (h2 : zs.length = ks.length) (h : spM M ps.length f (vs ++ zs) H Q E) : wpAny (model X.prog X.w) X.A (call (.ref fa) us (ks.zip ws)) (EP X pins σ Q) X.xe s := by
  refine wpAny_call (codeAny_mono (F.run X.A X.stack s H ⟨us, ks.zip ws⟩ (us ++ ws) (vs ++ zs) Q E hr I.env0 (hb.to D s (by rw [← r.length]; exact h1) (by rw [← rz.length]; exact h2)) (r.append rz) h) fun r s' hq => ?_)
  cases r with
  | error e => exact hx pins H s e s' I hq
  | ok fl =>
    cases fl with
    | ret u => exact I.after hq
    | next => exact False.elim hq
    | brk => exact False.elim hq
    | cont => exact False.elim hq
/-- f(e, .., k = e, ..) -/
theorem de_callK {n : Nat} (B : Bd X W k) (F : FOk X.prog X.w M X.mg X.base j x st ps f) (ha : DA X M W (e :: es) ms) (hk : DK X M W kws mk) (hb : KwB st x ps ks n) (hl : LenM ms n) (hl2 : LenM mk ks.length) (hn : n + ks.length = ps.length := by rfl) (hj : j ≤ k := by first | decide | omega) (hg : Gl X x := by rfl) (hK : X.K = M.K := by rfl)
    (hall : (backToKw pos (keywordEach kws X.env)).all (·.1.isSome) = true := by rfl) (hks : (backToKw pos (keywordEach kws X.env)).filterMap (·.1) = ks := by rfl)
    (hdb : (x == ("__debug__" : Str)) = false := by decide) (he : starEach (e :: es) X.env = (false, eval e X.env) :: starEach es X.env := by rfl)
    (hpl : ((backTo pos (starEach (e :: es) X.env)).any (·.1) || (backToKw pos (keywordEach kws X.env)).any (·.1.isNone)) = false := by rfl) : DE X M W (.Call (.Name x p) (e :: es) kws pos) (callM f (kwM ms mk)) := by
  obtain ⟨fa, fd, h1, h2, h3, h4⟩ := F.ex
  rw [← hK] at h1 h2
  refine ⟨fun pins s σ H Q I h => ?_⟩
  obtain ⟨env, S, φ, ψ, er, sr, q⟩ := h
  unfold callM kwM at q
  simp only [R.bind_assoc] at q
  refine wpAny_Call_Name_kw (ld_glob I hg h3 ?_ hdb)
  refine PySem.W.callWith_KW (h₀ := X.base) I.ok.mod.kin h1.kp hall (thn (ha.run pos pins s σ H (fun vs H1 => vs.length = n ∧ rdA M W mk σ H1 fun zs H2 => zs.length = ks.length ∧ spM M ps.length f (vs ++ zs) H2 Q (WE W σ)) I ⟨env, S, φ, ψ, er, sr, Post.cut (rp1 := rpA M ψ) q _ fun φ1 H1 a b S1 ea e1 ⟨s1, r1⟩ p1 => ?_⟩) fun us s1 ⟨vs, H1, I1, r, hn, q⟩ => ?_) hpl he
  · refine ⟨by rw [← r1.length]; exact hl env S a S1 ea, env, S1, φ1, ψ, er.mono s1.ok e1, s1, Post.cut (rp1 := rpA M ψ) p1 _ fun φ2 H2 c d S2 ec e2 ⟨s2, r2⟩ p2 => ⟨by rw [← r2.length]; exact hl2 env S1 c S2 ec, a ++ c, S2, φ2, ψ, ?_, (RepL.mono s2.ok e2 _ _ r1).append r2, s2, p2⟩⟩
    rw [List.length_append, hl env S a S1 ea, hl2 env S1 c S2 ec, hn]
  · refine thn (hk.run pos pins s1 σ H1 _ I1 q) fun ws s2 ⟨zs, H2, I2, rz, hz, q2⟩ => ⟨I2.kIn, ?_⟩
    rw [hks]
    exact run_fnK h2 h1 hb (B.at_ hj) (passAt B.tk σ) I2 r rz hn hz q2
/-- f(k = e, ..) -/
theorem de_callK0 (B : Bd X W k) (F : FOk X.prog X.w M X.mg X.base j x st ps f) (hk : DK X M W kws mk) (hb : KwB st x ps ks 0) (hl2 : LenM mk ks.length) (hn : ks.length = ps.length := by rfl) (hj : j ≤ k := by first | decide | omega) (hg : Gl X x := by rfl) (hK : X.K = M.K := by rfl)
    (hall : (backToKw pos (keywordEach kws X.env)).all (·.1.isSome) = true := by rfl) (hks : (backToKw pos (keywordEach kws X.env)).filterMap (·.1) = ks := by rfl)
    (hdb : (x == ("__debug__" : Str)) = false := by decide) (hpl : ((backTo pos (starEach [] X.env)).any (·.1) || (backToKw pos (keywordEach kws X.env)).any (·.1.isNone)) = false := by rfl) : DE X M W (.Call (.Name x p) [] kws pos) (callM f mk) := by
  obtain ⟨fa, fd, h1, h2, h3, h4⟩ := F.ex
  rw [← hK] at h1 h2
  refine ⟨fun pins s σ H Q I h => ?_⟩
  obtain ⟨env, S, φ, ψ, er, sr, q⟩ := h
  unfold callM at q
  refine wpAny_Call_Name_kw (ld_glob I hg h3 ?_ hdb)
  refine PySem.W.callWith_KW0 (first := []) (h₀ := X.base) I.ok.mod.kin h1.kp hall (thn (hk.run pos pins s σ H (fun zs H2 => zs.length = ks.length ∧ spM M ps.length f ([] ++ zs) H2 Q (WE W σ)) I ⟨env, S, φ, ψ, er, sr, Post.cut (rp1 := rpA M ψ) q _ fun φ1 H1 a b S1 ea e1 ⟨s1, r1⟩ p1 => ⟨by rw [← r1.length]; exact hl2 env S a S1 ea, a, S1, φ1, ψ, by rw [hl2 env S a S1 ea, hn], r1, s1, p1⟩⟩) fun ws s2 ⟨zs, H2, I2, rz, hz, q2⟩ => ⟨I2.kIn, ?_⟩) hpl
  rw [hks]
  exact run_fnK (us := []) (vs := []) h2 h1 hb (B.at_ hj) (passAt B.tk σ) I2 .nil rz rfl hz q2
end
/-! ### list(range(..)) -/
def rngD (a b : Int) : List D := (List.range (b - a).toNat).map fun i => D.int (a + (i : Nat))
def rngF1 (S : Sto) : List D → R (List D)
  | [.int b] => if 0 ≤ b ∧ b ≤ 16777216 then .ok (rngD 0 b) S else .stuck
  | _ => .stuck
theorem rng_rep {M : Mp} {φ ψ : List Addr} {H : Hp} {a b : Int} : RepL M φ ψ H (rngD a b) (rgV a b) := by
  unfold rngD rgV
  generalize List.range (b - a).toNat = l
  induction l with
  | nil => exact .nil
  | cons i l ih => exact .cons (by simp only [Rep]) ih
section
variable {X : Cx} {M : Mp} {W : WX} {p pos p2 pos2 : Pos} {e : Expr} {m : En → Sto → R D} {ms : En → Sto → R (List D)}
theorem df_lrng1 (h : DA X M W [e] ms) (hm : X.mg "list" = none) (hm2 : X.mg "range" = none) (hc : X.calm = true) (he : DE X M W e m) (hms : ms = consM m nilM := by rfl) (hg : Gl X "list" := by rfl) (hg2 : Gl X "range" := by rfl) (ne : starEach [e] X.env = (false, eval e X.env) :: starEach [] X.env := by rfl)
    (na : starEach [.Call (.Name "range" p2) [e] [] pos2] X.env = (false, eval (.Call (.Name "range" p2) [e] [] pos2) X.env) :: starEach [] X.env := by rfl) : DF X M W (.Call (.Name "list" p) [.Call (.Name "range" p2) [e] [] pos2] [] pos) (callM rngF1 ms) := by
  subst hms
  refine pe_imp (pe_listRg hc hg hm (prg_1 hg2 hm2 he ne) na) fun σ H Q h => ?_
  have h' : rdF M W (fun env S => (m env S).bind fun d S1 => rngF1 S1 [d]) σ H Q := by
    obtain ⟨env, S, φ, ψ, er, sr, q⟩ := h
    refine ⟨env, S, φ, ψ, er, sr, ?_⟩
    unfold callM consM nilM at q
    simp only [R.bind_assoc, DL.R.bind_ok] at q
    exact q
  refine rd_bindD h' _ fun env φ1 ψ d v S1 H1 er sr r q => ?_
  unfold rngF1 at q
  split at q
  · rename_i b hb
    cases hb
    split at q
    · rename_i hr
      simp only [Rep] at r
      exact ⟨b, r, RgOk.of_le (Int.le_refl 0) hr.2 (by decide) hr.1, fun p' hp => q.newF sr hp rng_rep⟩
    · exact q.elim
  · exact q.elim
end
end DL
end

section
set_option Elab.async false
set_option linter.all false
set_option maxRecDepth 100000
set_option maxHeartbeats 2000000
/-! DL, part 20: reversed tuples, str(int), written dicts, stars, dict displays. -/
namespace HT
open PySem PySem.Spec PyProof.Rows
section
variable {prog : Program} {w : World} {A : Around} {E : Value → Shared → Prop} {s : Shared}
theorem pick_rev (xs : Array Value) : ((List.range xs.size).filterMap fun (m : Nat) => xs[(((xs.size : Int) - 1) + (m : Int) * (-1)).toNat]?).toArray = xs.toList.reverse.toArray := by
  congr 1
  have e : ∀ n : Nat, n ≤ xs.size → ((List.range n).filterMap fun (m : Nat) => xs[(((xs.size : Int) - 1) + (m : Int) * (-1)).toNat]?) = xs.toList.reverse.take n := by
    intro n
    induction n with
    | zero => intro _; simp
    | succ n ih =>
      intro hn
      rw [List.range_succ, List.filterMap_append, ih (by omega), List.take_succ]
      congr 1
      have h1 : (((xs.size : Int) - 1) + (n : Int) * (-1)).toNat = xs.size - 1 - n := by omega
      simp only [List.filterMap_cons, List.filterMap_nil, h1]
      have h2 : xs.size - 1 - n < xs.size := by omega
      have h3 : n < xs.toList.length := by simp; omega
      rw [Array.getElem?_eq_getElem h2, List.getElem?_reverse h3]
      have h4 : xs.toList.length - 1 - n = xs.size - 1 - n := by simp
      rw [h4, Array.getElem?_toList, Array.getElem?_eq_getElem h2]
      rfl
  have := e xs.size (Nat.le_refl _)
  rw [this, List.take_of_length_le (by simp)]
theorem getItem_tuple_rev {t sl : Addr} {items : Array Value} {vs : Value} {Q : Value → Shared → Prop} (ht : IsTup s.heap t items) (hs : s.heap.IsSliceOf sl .none .none vs) (ps : IsPart vs (some (-1)))
    (h : Q (.ref s.heap.objs.size) { s with heap := s.heap.push { cls := .type "tuple", data := .seq items.toList.reverse.toArray } })
    (hsz : items.size ≤ sizeLine) : wpAny (model prog w) A (getItem (.ref t) (.ref sl)) Q E s := by
  have htake : sizeOk (.seq items.toList.reverse.toArray) := by
    show (items.toList.reverse).toArray.size ≤ sizeLine
    rw [List.size_toArray, List.length_reverse, Array.length_toList]
    exact hsz
  obtain ⟨os, hos, hcs, hds⟩ := id hs
  have hTs : s.TypeIs (.ref sl) "slice" := ⟨os, hos, hcs⟩
  unfold getItem
  try with_reducible refine wpAny_holding ?_
  first | refine wpAny_bind (wpAny_pure ?_) | skip
  refine wpAny_bind (wpAny_sequenceKey ht.typeIs (by decide) ?_)
  refine wpAny_bind (wpAny_callSpecial?_slot (name := Str.ofString "__getitem__") ht.typeIs PyProof.Rows.slot_tuple_getitem
    (wpAny_call_entry PyProof.Rows.slot_tuple_getitem ht.typeIs entry_tuple_getitem ?_ (args_tuple_getitem _ _)))
  show wpAny _ _ (Builtin.Tuple.tupleItemsOf (.ref t) >>= _) _ _ s
  refine wpAny_bind (tupleItemsOf_ ht ?_)
  refine wpAny_bind (wpAny_typeOf hTs ?_)
  rw [if_pos (by decide)]
  have ap : ∀ {Q : Int × Int × Nat → Shared → Prop}, Q ((items.size : Int) - 1, -1, items.size) s → wpAny (model prog w) A.in1 (Builtin.Slice.sliceApplied (.ref sl) (pure (items.size : Int))) Q E s := fun {Q} h => by
    unfold Builtin.Slice.sliceApplied Builtin.Slice.sliceFields
    refine wpAny_bind (wpAny_bind (wpAny_field hos hds (x := .none) rfl (wpAny_bind (wpAny_field hos hds (x := .none) rfl (wpAny_bind (wpAny_field hos hds (x := vs) rfl (wpAny_pure ?_)))))))
    refine wpAny_bind (slicePart_ ps ?_)
    show wpAny _ _ (if ((-1 : Int) == 0) = true then _ else _) _ _ s
    rw [if_neg (by decide)]
    refine wpAny_bind (slicePart_none (wpAny_bind (slicePart_none (wpAny_bind (wpAny_pure ?_)))))
    show wpAny _ _ (match Builtin.Slice.sliceAdjust none none (-1) (items.size : Int) with | (lo, hi) => pure (lo, (-1 : Int), Builtin.Slice.slicePlaces lo hi (-1))) _ _ s
    have e : Builtin.Slice.sliceAdjust none none (-1) (items.size : Int) = ((items.size : Int) - 1, -1) := by rfl
    rw [e]
    have e2 : Builtin.Slice.slicePlaces ((items.size : Int) - 1) (-1) (-1) = items.size := by
      unfold Builtin.Slice.slicePlaces
      have h1 : ¬ ((-1 : Int) > 0) := by omega
      have h2 : (-(-1 : Int)) = 1 := by decide
      simp only [h1, if_false, h2, Int.ediv_one]
      split <;> omega
    dsimp only
    rw [e2]
    exact wpAny_pure h
  refine wpAny_bind (ap ?_)
  have hno : ¬ ((((items.size : Int) - 1) == 0 && (-1 : Int) == 1 && items.size == items.size) = true) := by
    intro q
    rw [Bool.and_eq_true, Bool.and_eq_true] at q
    exact absurd q.1.2 (by decide)
  show wpAny _ _ (if (((items.size : Int) - 1) == 0 && (-1 : Int) == 1 && items.size == items.size) = true then _ else _) _ _ s
  rw [if_neg hno, pick_rev]
  first
    | exact wpAny_bind (m := Builtin.Tuple.tupleExact _) (wpAny_newObj_type (wpAny_pure ⟨_, rfl, wpAny_pure h⟩) htake)
    | exact wpAny_bind (m := Builtin.Tuple.tupleExact _) (wpAny_newObj_type (wpAny_bind (wpAny_pure (wpAny_pure ⟨_, rfl, wpAny_pure h⟩))) htake)
    | exact wpAny_bind (wpAny_bind (m := Builtin.Tuple.tupleExact _) (wpAny_newObj_type (wpAny_pure (wpAny_pure ⟨_, rfl, wpAny_pure h⟩)) htake))
    | exact wpAny_bind (wpAny_bind (m := Builtin.Tuple.tupleExact _) (wpAny_newObj_type (wpAny_pure ⟨_, rfl, wpAny_pure h⟩) htake))
end
end HT
namespace DL
open PySem PySem.Spec PyProof.Rows L2 LamX NdefX
/-! ### xs[::-1], a tuple or a list -/
def tRevA (K : PySem.W.Frag) (te : TE) : TE := fun σ H Q => te σ H fun x H1 => (∃ a xs, x = .ref a ∧ SqL K H1 a xs ∧ ∀ p, H1 p = none → Q (.ref p) (upd H1 p (.lst xs.reverse))) ∨ ∃ a xs, x = .ref a ∧ SqT K H1 a xs ∧ ∀ p, H1 p = none → Q (.ref p) (upd H1 p (.tup xs.reverse))
theorem pe_revA {X : Cx} {e : Expr} {te : TE} {k : Nat} {p1 p2 p3 pos : Pos} (he : PE X e te) : PE X (.Subscript e (.Slice none none (some (.UnaryOp .USub (.Constant (.int 1) k p1) p2)) p3) pos) (tRevA X.K te) := by
  refine ⟨fun pins s σ H Q I h => ?_⟩
  refine Subscript_ (thn (he.run pins s σ H _ I h) fun v s1 ⟨x, H1, I1, r1, q1⟩ => ?_)
  have hst : PO X (some (.UnaryOp .USub (.Constant (.int 1) k p1) p2)) (tPart (tUn (rU fun i => .int (-i)) (tC (.int 1)))) := po_some (pe_un un_neg pe_int)
  refine wpAny_Slice (thn (po_none.run pins s1 σ H1 (fun o H2 => o = none ∧ H2 = H1) I1 ⟨rfl, rfl⟩) fun vl s2 ⟨l, H2, I2, pl, el, e2⟩ => ?_)
  subst el e2
  refine thn (po_none.run pins s2 σ H2 (fun o H3 => o = none ∧ H3 = H2) I2 ⟨rfl, rfl⟩) fun vu s3 ⟨u, H3, I3, pu, eu, e3⟩ => ?_
  subst eu e3
  refine thn (hst.run pins s3 σ H3 (fun o H4 => o = some (-1) ∧ H4 = H3) I3 ⟨1, rfl, -1, rfl, rfl, rfl⟩) fun vs s4 ⟨o, H4, I4, ps, eo, e4⟩ => ?_
  subst eo e4
  have I5 : Inv X pins σ H4 { s4 with heap := s4.heap.push { cls := .type "slice", data := .fields #[vl, vu, vs] } } := I4.kept (t' := s4.toks) fun b ob q => Heap.get?_push_of_some _ q
  rcases q1 with ⟨a, xs, ex, hx, q⟩ | ⟨a, xs, ex, hx, q⟩
  · subst ex
    cases r1
    obtain ⟨its, r, ht, hz⟩ := I5.list hx
    have hlen := r.length
    show wpAny (model X.prog X.w) X.A (subscriptTail e (.Slice none none (some (.UnaryOp .USub (.Constant (.int 1) k p1) p2)) p3) (.ref a) (.ref s4.heap.objs.size)) (EP X pins σ Q) X.xe { s4 with heap := s4.heap.push { cls := .type "slice", data := .fields #[vl, vu, vs] } }
    refine tail_any (ops := [.ref a, .ref s4.heap.objs.size]) ht.isList.typeIs (PySem.slot_list_getitem.lookup) ?_ (by with_unfolding_all rfl)
    refine wpAny_getItem_list_slice ht.isList (Heap.IsSliceOf.new _ vl vu vs) pl pu ps (by decide) ?_ (by rw [List.size_toArray]; omega)
    rw [PySem.W.krv_pick]
    refine ⟨.ref _, _, I5.laid (t' := s4.toks) (o := .lst xs.reverse) (fun b ob q => Heap.get?_push_of_some _ q) (Nat.le_refl _) ?_, rfl, q _ (I5.hok.fresh (Nat.le_refl _))⟩
    exact ⟨by rw [List.length_reverse]; exact hz, _, 0, r.reverse, Heap.get?_push_size _ rfl⟩
  · subst ex
    cases r1
    obtain ⟨its, r, ht, hz⟩ := I5.tuple hx
    have hlen := r.length
    cases pl
    cases pu
    show wpAny (model X.prog X.w) X.A (subscriptTail e (.Slice none none (some (.UnaryOp .USub (.Constant (.int 1) k p1) p2)) p3) (.ref a) (.ref s4.heap.objs.size)) (EP X pins σ Q) X.xe { s4 with heap := s4.heap.push { cls := .type "slice", data := .fields #[.none, .none, vs] } }
    refine tail_any (ops := [.ref a, .ref s4.heap.objs.size]) ht.typeIs (PyProof.Rows.slot_tuple_getitem.lookup) ?_ (by with_unfolding_all rfl)
    refine HT.getItem_tuple_rev ht (Heap.IsSliceOf.new _ .none .none vs) ps ?_ (by rw [List.size_toArray]; omega)
    refine ⟨.ref _, _, I5.laid (t' := s4.toks) (o := .tup xs.reverse) (fun b ob q => Heap.get?_push_of_some _ q) (Nat.le_refl _) ?_, rfl, q _ (I5.hok.fresh (Nat.le_refl _))⟩
    exact ⟨by rw [List.length_reverse]; exact hz, _, r.reverse, IsTup.new _ _⟩
def revM (m : En → Sto → R D) : En → Sto → R D := fun env S => (m env S).bind fun d S1 => match d with
  | .tup ds => .ok (.tup ds.reverse) S1
  | d => match asL S1 d with
    | some ds => .ok (.lst ds.reverse) S1
    | none => .stuck
section
variable {X : Cx} {M : Mp} {W : WX} {a : Expr} {ma : En → Sto → R D} {pos : Pos}
theorem de_rev {k : Nat} {p1 p2 p3 : Pos} (ha : DE X M W a ma) (hK : X.K = M.K := by rfl) : DE X M W (.Subscript a (.Slice none none (some (.UnaryOp .USub (.Constant (.int 1) k p1) p2)) p3) pos) (revM ma) := by
  refine pe_imp (pe_revA ha) fun σ H Q h => ?_
  refine rd_bindD h _ fun env φ1 ψ d v S1 H1 er sr r p => ?_
  split at p
  · simp only [Rep] at r
    obtain ⟨q, xs, rfl, h1, h2⟩ := r
    exact .inr ⟨q, xs, rfl, by rw [hK]; exact h1, fun q' hq => p.newD sr hq (.tupNew sr h2.reverse hq)⟩
  · split at p
    · rename_i ds e
      obtain ⟨q, xs, rfl, h1, h2⟩ := at_L sr r e
      refine .inl ⟨q, xs, rfl, by rw [hK]; exact h1, fun q' hq => p.newD sr hq ?_⟩
      simp only [Rep]
      exact ⟨q', _, rfl, (sr.notIn hq).1, (sr.notIn hq).2, upd_same, RepL.mono sr.ok (sr.laid hq).1 _ _ h2.reverse⟩
    · exact p.elim
/-! ### str(int) -/
def strCG (S : Sto) : List D → R D
  | [.int i] => if i.natAbs.log2 < 1920 then .ok (.str (toString i)) S else .stuck
  | _ => .stuck
theorem c_str : ∃ r, CallR X (.type "str") r ∧ Call1 M r strCG := by
  refine ⟨_, call_str_int, ?_⟩
  intro φ ψ S H ds vs Q Wc s r p
  unfold strCG at p
  split at p
  · obtain ⟨v, rfl, h⟩ := r.one
    simp only [Rep] at h; subst h
    split at p
    · rename_i hz
      exact ⟨_, rfl, hz, p.retD s (by simp only [Rep])⟩
    · exact p.elim
  · exact p.elim
theorem boot_str' : bootBuiltins "str" = some (.type "str") := by decide +kernel
/-! ### *e -/
def starM (m : En → Sto → R D) (ms : En → Sto → R (List D)) : En → Sto → R (List D) := fun env S => (m env S).bind fun d S1 => match asS S1 d with
  | some ds => (ms env S1).bind fun es S2 => .ok (ds ++ es) S2
  | none => .stuck
theorem da_star {e : Expr} {es : List Expr} {p : Pos} {m : En → Sto → R D} {ms : En → Sto → R (List D)} (ha : DE X M W e m) (hr : DA X M W es ms) (hK : X.K = M.K := by rfl) (hs : starEach (.Starred e p :: es) X.env = (true, eval e X.env) :: starEach es X.env := by rfl) : DA X M W (.Starred e p :: es) (starM m ms) := by
  refine pa_imp (StX.pa_star ha hr hs) fun σ H Q h => ?_
  refine rd_bindD h _ fun env φ1 ψ d v S1 H1 er sr r p => ?_
  split at p
  · rename_i ds e
    obtain ⟨a, xs, rfl, h1, h2⟩ := at_S sr r e
    refine ⟨a, xs, rfl, by rw [hK]; exact h1.symm, env, S1, φ1, ψ, er, sr, (Post.bind (rp1 := rpA M ψ) p).imp ?_⟩
    rintro vs H2 ⟨φ2, es', S2, e2, ⟨s2, r2⟩, p2⟩
    exact p2.retA s2 ((RepL.mono s2.ok e2 _ _ h2).append r2)
  · exact p.elim
/-! ### dicts of the module -/
/-- its entries, from the left -/
def TabLit : List DictEntry → List (Str × D) → Prop
  | [], [] => True
  | e :: l, q :: tab => (∃ t, e.key = .str q.1 t) ∧ (∃ v, RelV v e.val ∧ ∀ (M : Mp) (φ ψ : List Addr) (H : Hp), Rep M φ ψ H q.2 v) ∧ TabLit l tab
  | _, _ => False
structure KDt (K : PySem.W.Frag) (w : World) (d : Addr) (tab : List (Str × D)) : Prop where
  ex : ∃ (es : Array DictEntry) (n : Nat), KDict K w d es n ∧ TabLit es.toList tab
theorem isStr_lit {x z : Str} {t : Tok} : (Value.str x t).isStr z = (z == x) := by
  show (x == z) = (z == x)
  by_cases h : x = z
  · subst h; rfl
  · rw [beq_eq_false_iff_ne.mpr h, beq_eq_false_iff_ne.mpr (Ne.symm h)]
theorem tabLit_find {z : Str} : ∀ {l : List DictEntry} {tab : List (Str × D)}, TabLit l tab → (match tab.lookup z with
    | none => l.find? (·.key.isStr z) = none
    | some dd => ∃ e v, l.find? (·.key.isStr z) = some e ∧ RelV v e.val ∧ ∀ (M : Mp) (φ ψ : List Addr) (H : Hp), Rep M φ ψ H dd v) ∧ l.any (·.refKey) = false
  | [], [], _ => ⟨rfl, rfl⟩
  | [], _ :: _, h => h.elim
  | _ :: _, [], h => h.elim
  | e :: l, (x, d) :: tab, h => by
    obtain ⟨⟨t, hk⟩, ⟨v, hv, hd⟩, hr⟩ := h
    obtain ⟨h1, h2⟩ := tabLit_find (z := z) hr
    have hk' : e.key.isStr z = (z == x) := by rw [hk]; exact isStr_lit
    refine ⟨?_, ?_⟩
    · rw [List.lookup_cons, List.find?_cons]
      show (match (match z == x with | true => some d | false => tab.lookup z) with | none => _ | some dd => _)
      rw [hk']
      cases z == x with
      | true => exact ⟨e, v, rfl, hv, hd⟩
      | false => exact h1
    · rw [List.any_cons, h2, Bool.or_false]
      show e.refKey = false
      unfold DictEntry.refKey
      rw [hk]
theorem KDt.look {K : PySem.W.Frag} {w : World} {d : Addr} {tab : List (Str × D)} (T : KDt K w d tab) (z : Str) : match tab.lookup z with
    | none => PySem.W.nsIn K d z = some none
    | some dd => ∃ u v, PySem.W.nsIn K d z = some (some u) ∧ RelV v u ∧ ∀ (M : Mp) (φ ψ : List Addr) (H : Hp), Rep M φ ψ H dd v := by
  obtain ⟨es, n, hD, hT⟩ := T.ex
  obtain ⟨h1, h2⟩ := tabLit_find (z := z) hT
  unfold PySem.W.nsIn
  rw [hD.at_]
  dsimp only
  split at h1
  · rw [h1, h2]; rfl
  · obtain ⟨e, v, h3, h4, h5⟩ := h1
    rw [h3]
    exact ⟨_, v, rfl, h4, h5⟩
def kinG (k : Nat) (tab : List (Str × D)) (S : Sto) (d e : D) : R Bool := match d, e with
  | .str z, .fn i => if i = k then .ok (tab.lookup z).isSome S else .stuck
  | _, _ => .stuck
def kninG (k : Nat) (tab : List (Str × D)) (S : Sto) (d e : D) : R Bool := match d, e with
  | .str z, .fn i => if i = k then .ok (!(tab.lookup z).isSome) S else .stuck
  | _, _ => .stuck
def kixG (k : Nat) (tab : List (Str × D)) (S : Sto) (d e : D) : R D := match d, e with
  | .fn i, .str z => if i = k then (match tab.lookup z with
    | some dd => .ok dd S
    | none => .stuck) else .stuck
  | _, _ => .stuck
theorem cm_kin {k : Nat} {tab : List (Str × D)} (T : KDt M.K X.w (M.fa k) tab) (hK : X.K = M.K := by rfl) : ∃ r, OpR X (compareOp .In) r ∧ Cm2 M r (kinG k tab) := by
  obtain ⟨es, n, hD, hT⟩ := T.ex
  refine ⟨_, op_in_kd (es := es) (n := n) (d := M.fa k) (by rw [hK]; exact hD), ?_⟩
  intro φ ψ S H d1 d2 x y Q Wc s r1 r2 p
  unfold kinG at p
  split at p
  · rename_i z i
    split at p
    · rename_i hi
      subst hi
      simp only [Rep] at r1 r2; subst r1 r2
      have h := T.look z
      rw [hK]
      cases hl : tab.lookup z with
      | none => rw [hl] at h p; exact ⟨z, none, rfl, rfl, h, p.retB s⟩
      | some dd =>
        rw [hl] at h p
        obtain ⟨u, v, h1, _, _⟩ := h
        exact ⟨z, some u, rfl, rfl, h1, p.retB s⟩
    · exact p.elim
  · exact p.elim
theorem cm_knin {k : Nat} {tab : List (Str × D)} (T : KDt M.K X.w (M.fa k) tab) (hK : X.K = M.K := by rfl) : ∃ r, OpR X (compareOp .NotIn) r ∧ Cm2 M r (kninG k tab) := by
  obtain ⟨es, n, hD, hT⟩ := T.ex
  refine ⟨_, op_notIn_kd (es := es) (n := n) (d := M.fa k) (by rw [hK]; exact hD), ?_⟩
  intro φ ψ S H d1 d2 x y Q Wc s r1 r2 p
  unfold kninG at p
  split at p
  · rename_i z i
    split at p
    · rename_i hi
      subst hi
      simp only [Rep] at r1 r2; subst r1 r2
      have h := T.look z
      rw [hK]
      cases hl : tab.lookup z with
      | none => rw [hl] at h p; exact ⟨z, none, rfl, rfl, h, p.retB s⟩
      | some dd =>
        rw [hl] at h p
        obtain ⟨u, v, h1, _, _⟩ := h
        exact ⟨z, some u, rfl, rfl, h1, p.retB s⟩
    · exact p.elim
  · exact p.elim
theorem de_kix {k : Nat} {tab : List (Str × D)} {b : Expr} {mb : En → Sto → R D} (T : KDt M.K X.w (M.fa k) tab) (ha : DE X M W a ma) (hb : DE X M W b mb) (hs : PlainIx b := by exact fun _ _ => rfl) (hK : X.K = M.K := by rfl) : DE X M W (.Subscript a b pos) (op2M (kixG k tab) ma mb) := by
  refine pe_imp (pe_ix ix_kdict ha hb hs) (rd_op2 ?_)
  intro φ ψ S H d1 d2 x y Q Wc s r1 r2 p
  unfold kixG at p
  split at p
  · rename_i i z
    split at p
    · rename_i hi
      subst hi
      simp only [Rep] at r1 r2; subst r1 r2
      have h := T.look z
      obtain ⟨es, n, hD, hT⟩ := T.ex
      rw [hK]
      cases hl : tab.lookup z with
      | none => rw [hl] at p; exact p.elim
      | some dd =>
        rw [hl] at h p
        obtain ⟨u, v, h1, h2, h3⟩ := h
        exact ⟨_, z, v, rfl, rfl, ⟨es, n, u, hD.at_, hD.lit, h1, h2⟩, p.retD s (h3 M φ ψ H)⟩
    · exact p.elim
  · exact p.elim
end
/-! ### dict displays of constants -/
section
variable {X : Cx} {M : Mp} {W : WX} {pos : Pos}
def dicM (ks : List Str) (ds : List D) : En → Sto → R D := fun _ S => .ok (.dic ks ds) S
theorem de_dic0 : DE X M W (.Dict [] [] pos) (dicM [] []) := by
  refine pe_imp pe_dnewK fun σ H Q ⟨env, S, φ, ψ, er, sr, p⟩ q hq => p.newD sr hq ?_
  simp only [Rep]
  exact ⟨q, [], rfl, (sr.notIn hq).1, (sr.notIn hq).2, upd_same, rfl, .nil⟩
theorem de_dic1 {x : Str} {d : D} {v : V} {ek ev : Expr} (hk : PE X ek (tC (.str x))) (hv : PE X ev (tC v)) (hd : ∀ φ ψ H, Rep M φ ψ H d v) : DE X M W (.Dict [some ek] [ev] pos) (dicM [x] [d]) := by
  refine pe_imp (pe_disp (pps_cons hk hv pps_nil) rfl rfl (by simp) (by simp)) fun σ H Q ⟨env, S, φ, ψ, er, sr, p⟩ q hq => ?_
  refine ⟨upd_same, [(Sum.inr x, v)], rfl, by simp, ?_⟩
  have e : upd (upd H q (.dK [])) q (.dK (mergeK [] [(Sum.inr x, v)])) = upd H q (.dK [(Sum.inr x, v)]) := by
    funext b
    by_cases h : b = q
    · subst h; rw [upd_same, upd_same]; rfl
    · rw [upd_ne h, upd_ne h, upd_ne h]
  show Q (.ref q) (upd (upd H q (.dK [])) q (.dK (mergeK [] [(Sum.inr x, v)])))
  rw [e]
  refine p.newD sr hq ?_
  simp only [Rep]
  exact ⟨q, [v], rfl, (sr.notIn hq).1, (sr.notIn hq).2, upd_same, rfl, .cons (hd _ _ _) .nil⟩
end
end DL
end

section
set_option Elab.async false
set_option linter.all false
set_option maxRecDepth 100000
set_option maxHeartbeats 2000000
/-! DL, part 21: sets of texts, sorted. -/
namespace L2
open PySem PySem.Spec PyProof.Rows
theorem isS_ {P : Program} {w : World} (k : Str) (u : Tok) : (strKind P w).is k (.str k u) = true := by
  show Value.isStrOf k (.str k u) = true
  simp [Value.isStrOf]
def keyS (e : Int × Value) : Str := match e.2 with | .str k _ => k | _ => ⟨#[]⟩
def GoodS (w : World) (e : Int × Value) : Prop := ∃ k tk, e.2 = Value.str k tk ∧ e.1 = hashStr w k
/-- the set of texts at a: S its members, n their number; its table rises and can be walked -/
def SetS (w : World) (h : Heap) (a : Addr) (S : Str → Bool) (n : Nat) : Prop :=
  ∃ o es ep t, h.get? a = some o ∧ o.ExactSet ∧ o.data = .set es ep t ∧ (∀ e ∈ es.toList, GoodS w e) ∧ (es.toList.map keyS).Nodup ∧ (∀ k, S k = true ↔ k ∈ es.toList.map keyS) ∧
    es.size < scanBound ∧ t.fits es.size = true ∧ es.size = n ∧ Ris t.place.toList ∧ (w.params.followText "set-order" = true ∨ t.led = true)
section
variable {P : Program} {w : World} {h h' : Heap} {a : Addr} {S : Str → Bool} {n : Nat}
theorem SetS.at (R : SetS w h a S n) (k : ∀ o, h.get? a = some o → h'.get? a = some o) : SetS w h' a S n := by
  obtain ⟨o, es, ep, t, ho, r⟩ := R
  exact ⟨o, es, ep, t, k o ho, r⟩
theorem goodS_elems {l : List (Int × Value)} (g : ∀ e ∈ l, GoodS w e) : ElemsOf (strKind P w) l := fun e he => by
  obtain ⟨k, tk, h1, h2⟩ := g e he
  exact ⟨⟨k, by rw [h1]; exact isS_ k tk, h2⟩, by rw [h1] <;> rfl⟩
theorem goodS_is {e : Int × Value} (g : GoodS w e) (k : Str) : (strKind P w).is k e.2 = true ↔ keyS e = k := by
  obtain ⟨k0, tk, h1, _⟩ := g
  unfold keyS
  rw [h1]
  exact ⟨fun q => (strKind P w).inj (.str k0 tk) k0 k (isS_ k0 tk) q, fun q => by rw [← q]; exact isS_ k0 tk⟩
theorem goodS_mem {l : List (Int × Value)} (g : ∀ e ∈ l, GoodS w e) (k : Str) : k ∈ l.map keyS ↔ ∃ e ∈ l, (strKind P w).is k e.2 = true := by
  rw [List.mem_map]
  constructor
  · rintro ⟨e, he, q⟩
    exact ⟨e, he, (goodS_is (g e he) k).2 q⟩
  · rintro ⟨e, he, q⟩
    exact ⟨e, he, (goodS_is (g e he) k).1 q⟩
end
section
variable {P : Program} {w : World} {A : Around} {E : Value → Shared → Prop} {s : Shared} {a : Addr} {S : Str → Bool} {n : Nat}
theorem setS_add_tail {g : Bool → Sem Unit} (hg : ∀ (b : Bool) (s₁ : Shared) (Q' : Unit → Shared → Prop), Q' () s₁ → wpAny (model P w) A (g b) Q' E s₁)
    {o : Obj} {es : Array (Int × Value)} {ep : Nat} {t : SetTable} (ho : s.heap.get? a = some o) (hex : o.ExactSet) (hd : o.data = .set es ep t)
    {es1 : Array (Int × Value)} {t2 : SetTable} {S' : Str → Bool} (g1 : ∀ e ∈ es1.toList, GoodS w e) (nd1 : (es1.toList.map keyS).Nodup) (m1 : ∀ k, S' k = true ↔ k ∈ es1.toList.map keyS)
    (hb1 : es1.size < scanBound) (hf2 : t2.fits es1.size = true) (hr : Ris t2.place.toList) (hl : w.params.followText "set-order" = true ∨ t2.led = true) {wasDummy : Bool} {R : Option Bool → Shared → Prop}
    (hR : ∀ h', Heap.SameBut a s.heap h' → SetS w h' a S' es1.size → R (some true) { s with heap := h' }) :
    wpAny (model P w) A (do
        storeSet a es1 t2
        if (!wasDummy && t2.tooFull) = true then do
            g (relayAll t2 es1 (SetTable.grown es1.size)).2.2
            storeSet a (relayAll t2 es1 (SetTable.grown es1.size)).1 (relayAll t2 es1 (SetTable.grown es1.size)).2.1
            pure (some true)
          else pure (some true)) R E s := by
  refine wpAny_bind (wpAny_storeSet_of ho hd ?_ (fits_of_scanBound hb1))
  have ho1 := store_at (es' := es1) (t' := t2) ho hd
  have sb1 := Heap.SameBut.update s.heap a (Obj.putSet es1 t2)
  split
  · have pm := relayAll_perm t2 es1 (SetTable.grown es1.size)
    have hf3 := relayAll_fits t2 es1 (SetTable.grown es1.size)
    have hr3 := relayAll_ris t2 es1 (SetTable.grown es1.size)
    have hl3 := relayAll_led t2 es1 (SetTable.grown es1.size)
    generalize relayAll t2 es1 (SetTable.grown es1.size) = Z at pm hf3 hr3 hl3 ⊢
    obtain ⟨es2, t3, gave⟩ := Z
    dsimp only at pm hf3 hr3 hl3 ⊢
    have hsz : es2.size = es1.size := by rw [← Array.length_toList, pm.length_eq, Array.length_toList]
    have hb2 : es2.size < scanBound := by rw [hsz]; exact hb1
    refine wpAny_bind (hg _ _ _ ?_)
    refine wpAny_bind (wpAny_storeSet_of ho1 rfl ?_ (fits_of_scanBound hb2))
    have ho2 := store_at (es' := es2) (t' := t3) ho1 rfl
    refine wpAny_pure (hR _ (sb1.trans (Heap.SameBut.update _ a _)) ?_)
    exact ⟨_, es2, _, t3, ho2, hex, rfl, fun e he => g1 e (pm.mem_iff.mp he), (pm.map keyS).nodup_iff.mpr nd1, fun k => (m1 k).trans (pm.map keyS).mem_iff.symm, hb2, hf3, hsz, hr3,
      hl.imp id fun z => by rw [hl3]; exact z⟩
  · exact wpAny_pure (hR _ sb1 ⟨_, es1, _, t2, ho1, hex, rfl, g1, nd1, m1, hb1, hf2, rfl, hr, hl⟩)
theorem setS_add_hashed {k : Str} {tk : Tok} {Q : Bool → Shared → Prop} (R : SetS w s.heap a S n) (room : n + 1 < scanBound)
    (hQ : ∀ h', Heap.SameBut a s.heap h' → SetS w h' a (fun j => S j || decide (j = k)) (if S k = true then n else n + 1) → Q (!S k) { s with heap := h' }) :
    wpAny (model P w) A (setAddHashed a (.str k tk) ((strKind P w).hash k)) Q E s := by
  obtain ⟨o, es, ep, t, ho, hex, hd, g, nd, hm, hb, hf, hn, hr, hl⟩ := R
  have hkey : (strKind P w).is k (.str k tk) = true := isS_ k tk
  have hsc : (Value.str k tk).scannable = true := rfl
  have hel : ElemsOf (strKind P w) es.toList := goodS_elems g
  unfold setAddHashed setAddHashedIn
  refine wpAny_holding (wpAny_bind (wpAny_setState_of ho hd hf ?_))
  dsimp only
  rw [byScan_of hsc hb hel]
  simp only [↓reduceIte]
  unfold setAddByScan
  refine wpAny_bind ?_
  refine wpAny_bind (wpAny_rule ?_)
  refine wpAny_bind (wpAny_setScan_of hkey ho hd hf hel ?_)
  cases hfi : List.findIdx? (fun e => (strKind P w).is k e.2) es.toList with
  | some j =>
    dsimp only
    obtain ⟨hj, pj, _⟩ := List.findIdx?_eq_some_iff_getElem.mp hfi
    have hSk : S k = true := (hm k).2 ((goodS_mem (P := P) (w := w) g k).2 ⟨es.toList[j], List.getElem_mem hj, pj⟩)
    refine wpAny_pure (wpAny_pure ?_)
    have q := hQ s.heap (Heap.SameBut.refl a s.heap) ⟨o, es, ep, t, ho, hex, hd, g, nd, fun i => by
      rw [Bool.or_eq_true, decide_eq_true_eq, ← hm i]
      exact ⟨fun z => z.elim id (fun e => e ▸ hSk), .inl⟩, hb, hf, by rw [if_pos hSk]; exact hn, hr, hl⟩
    rw [hSk] at q
    exact q
  | none =>
    dsimp only
    have hnk : k ∉ es.toList.map keyS := fun z => by
      obtain ⟨e, he, q⟩ := (goodS_mem (P := P) (w := w) g k).1 z
      have c := List.findIdx?_eq_none_iff.mp hfi e he
      rw [q] at c
      cases c
    have hSk : S k = false := by
      cases q : S k with
      | false => rfl
      | true => exact absurd ((hm k).1 q) hnk
    have hgw : ∀ (b : Bool) {s₁ : Shared} {Q' : Unit → Shared → Prop}, Q' () s₁ → wpAny (model P w) A (match b with | true => rule "set.scan.the-table-gave-way" | false => pure ()) Q' E s₁ :=
      fun b s₁ Q' q => by cases b <;> first | exact wpAny_pure q | exact wpAny_rule q
    have pm := layNew_perm t es ((strKind P w).hash k) (.str k tk)
    have hf1 := layNew_fits t es ((strKind P w).hash k) (.str k tk)
    have hr1 := layNew_ris t es ((strKind P w).hash k) (.str k tk) hr
    have hl1 := layNew_led t es ((strKind P w).hash k) (.str k tk)
    generalize layNew t es ((strKind P w).hash k) (.str k tk) = Z at pm hf1 hr1 hl1 ⊢
    obtain ⟨es1, t1, wasDummy, gave⟩ := Z
    dsimp only at pm hf1 hr1 hl1 ⊢
    rw [Array.toList_push] at pm
    have pc : es1.toList.Perm (((strKind P w).hash k, Value.str k tk) :: es.toList) := pm.trans (List.perm_append_singleton _ _)
    have pk : (es1.toList.map keyS).Perm (k :: es.toList.map keyS) := pc.map keyS
    have g1 : ∀ e ∈ es1.toList, GoodS w e := fun e he => by
      rcases List.mem_cons.mp (pc.mem_iff.mp he) with z | z
      · rw [z]; exact ⟨k, tk, rfl, rfl⟩
      · exact g e z
    have nd1 : (es1.toList.map keyS).Nodup := pk.nodup_iff.mpr (List.nodup_cons.mpr ⟨hnk, nd⟩)
    have m1 : ∀ i, (S i || decide (i = k)) = true ↔ i ∈ es1.toList.map keyS := fun i => by
      rw [Bool.or_eq_true, decide_eq_true_eq, hm i, pk.mem_iff, List.mem_cons]
      exact Or.comm
    have hsz : es1.size = n + 1 := by rw [← Array.length_toList, pc.length_eq, List.length_cons, Array.length_toList, hn]
    have hb1 : es1.size < scanBound := by rw [hsz]; exact room
    have hled : w.params.followText "set-order" = true ∨ t1.led = true := hl.imp id fun z => by rw [hl1]; exact z
    have fin : ∀ h', Heap.SameBut a s.heap h' → SetS w h' a (fun j => S j || decide (j = k)) es1.size → Q true { s with heap := h' } := fun h' sb r => by
      have q := hQ h' sb
      rw [hSk] at q
      rw [hsz] at r
      exact q r
    refine wpAny_bind (hgw _ ?_)
    split
    · refine wpAny_bind ?_
      rw [hashByValue_scannable 8 hsc]
      refine wpAny_pure ?_
      refine setS_add_tail ?_ ho hex hd g1 nd1 m1 hb1 ?_ ?_ ?_ ?_
      · intro b s₁ Q' q; cases b <;> first | exact wpAny_pure q | exact wpAny_rule q
      · first | (split <;> first | exact hf1 | exact SetTable.fits_plain_off hf1) | exact hf1
      · first | (split <;> exact hr1) | exact hr1
      · first | (split <;> exact hled) | exact hled
      · intro h' sb r; dsimp only; exact wpAny_pure (fin h' sb r)
    · refine wpAny_bind (wpAny_pure ?_)
      simp only [↓reduceIte]
      refine setS_add_tail ?_ ho hex hd g1 nd1 m1 hb1 hf1 hr1 hled ?_
      · intro b s₁ Q' q; cases b <;> first | exact wpAny_pure q | exact wpAny_rule q
      · intro h' sb r; dsimp only; exact wpAny_pure (fin h' sb r)
theorem setS_fresh {h : Heap} {a : Addr} (ho : h.get? a = some { cls := .type "set", dict := none, data := .set #[] 0 (.fresh 0 0 (!w.params.followText "set-order")) }) : SetS w h a (fun _ => false) 0 :=
  ⟨_, #[], 0, _, ho, ⟨rfl, rfl, rfl⟩, rfl, (fun e he => by simp at he), (by simp), (fun k => by simp), (by decide), (by rfl), rfl, List.Pairwise.nil, by
    show _ ∨ (!w.params.followText "set-order") = true
    cases w.params.followText "set-order"
    · exact .inr rfl
    · exact .inl rfl⟩
/-- the members of the first i -/
def MemS (ks : List Str) (i : Nat) : Str → Bool := fun k => decide (k ∈ ks.take i)
theorem SetS.next {h : Heap} {a : Addr} {ks : List Str} {i m : Nat} {x : Str} (hx : ks[i]? = some x) (R : SetS w h a (fun j => MemS ks i j || decide (j = x)) m) : SetS w h a (MemS ks (i + 1)) m := by
  have e : (fun j => MemS ks i j || decide (j = x)) = MemS ks (i + 1) := by
    funext j
    unfold MemS
    rw [take_next hx]
    by_cases h1 : j ∈ ks.take i <;> by_cases h2 : j = x <;> simp [h1, h2]
  rw [e] at R
  exact R
/-- set.update's loop -/
theorem set_update_txts {I : Addr} {fp wr : List Addr} {G : Array GenState → Array GenState → Prop} {n : Nat} {Pv : Nat → Value → Prop} {St : Nat → Shared → Prop} {R : Result → Shared → Prop}
    (W : WalksS P w A.in1 I fp wr G n Pv St) (S : Addr) (hSf : S ∉ fp) (ks : List Str) (hn : n = ks.length) (hfew : ks.length < 4000) (hval : ∀ i v, Pv i v → ∃ p tk, ks[i]? = some p ∧ v = .str p tk)
    (h0 : Heap) (hS0 : h0.get? S = none) (hw0 : ∀ b ∈ wr, h0.get? b = none) :
    ∀ (k i : Nat) (s : Shared), n - i = k → i ≤ n → St i s → (∀ b o, h0.get? b = some o → s.heap.get? b = some o) → (∃ m, m ≤ i ∧ SetS w s.heap S (MemS ks i) m) →
      (∀ s' m, Moved (S :: wr) G s s' → m ≤ n → SetS w s'.heap S (MemS ks n) m → (∀ b o, h0.get? b = some o → s'.heap.get? b = some o) → R (.ok (.ret .none)) s') →
      codeAny (model P w) A (.builtin "set.update.loop" ⟨[.ref S, .ref I], []⟩) R s := by
  have hSw : S ∉ wr := fun h => hSf (W.sub _ h)
  have hsub : ∀ b ∈ wr, b ∈ S :: wr := fun b hb => List.mem_cons_of_mem _ hb
  have keepM : ∀ {s s' : Shared}, Moved wr G s s' → (∀ b o, h0.get? b = some o → s.heap.get? b = some o) → ∀ b o, h0.get? b = some o → s'.heap.get? b = some o := fun hm hkp b o e =>
    hm.heap b o (fun hb => by rw [hw0 b hb] at e; cases e) (hkp b o e)
  intro k
  induction k with
  | zero =>
    intro i s hk' hi hst hkp ⟨m, hm0, hS⟩ hR
    have hin : i = n := by omega
    subst hin
    refine codeAny_builtin F.entry_set_update_loop ?_
    rw [Around.under_plainId F.plain_set_update_loop _]
    show wpAny _ A.in1 (pyNext (.ref I) >>= _) _ _ s
    refine wpAny_bind (W.done s _ _ hst fun s' hm => ?_)
    show wpAny _ A.in1 (ret Value.none) _ _ s'
    exact wpAny_pure (hR s' m (hm.mono hsub) hm0 (hS.at fun o e => hm.heap S o hSw e) (keepM hm hkp))
  | succ k ih =>
    intro i s hk' hi hst hkp ⟨m, hm0, hS⟩ hR
    have hlt : i < n := by omega
    refine codeAny_builtin F.entry_set_update_loop ?_
    rw [Around.under_plainId F.plain_set_update_loop _]
    show wpAny _ A.in1 (pyNext (.ref I) >>= _) _ _ s
    refine wpAny_bind (W.item i s _ _ hlt hst fun v s' hP hst' hm => ?_)
    obtain ⟨p, tk, hp, rfl⟩ := hval i v hP
    have hkp' := keepM hm hkp
    have hS' : SetS w s'.heap S (MemS ks i) m := hS.at fun o e => hm.heap S o hSw e
    show wpAny _ A.in1 (holding [Value.str p tk] (setAdd S (.str p tk)) >>= _) _ _ s'
    refine wpAny_bind (wpAny_holding ?_)
    unfold setAdd
    refine wpAny_holding ?_
    refine wpAny_bind ((strKind P w).pyHash (isS_ p tk) ?_)
    refine setS_add_hashed (s := { s' with toks := s'.toks + 1 }) hS' (by unfold scanBound; omega) fun h' hsb hS2 => ?_
    have hS3 := hS2.next hp
    have hkp2 : ∀ b o, h0.get? b = some o → h'.get? b = some o := fun b o e => (hsb.2 b (fun z => by rw [z, hS0] at e; cases e)).trans (hkp' b o e)
    refine wpAny_pure ⟨plainId_quiet F.plain_set_update_loop _, ih (i + 1) _ (by omega) hlt (W.frame _ s' _ _ hst' (Nat.le_add_right _ _) fun b hb o e => ?_) hkp2 ⟨_, by split <;> omega, hS3⟩ fun s'' m2 hm'' hm2 hS'' hkp'' => ?_⟩
    · rw [hsb.2 b (fun h : b = S => hSf (by rw [← h]; exact hb))]; exact e
    · refine hR s'' m2 (Moved.trans W.gtrans ((hm.mono hsub).then_heap (Nat.le_add_right _ _) fun b o hb e => ?_) hm'') hm2 hS'' hkp''
      rw [hsb.2 b (fun h : b = S => hb (by rw [h]; exact List.mem_cons_self))]; exact e
set_option maxRecDepth 100000 in
set_option maxHeartbeats 3200000 in
/-- set(xs) -/
theorem call_set_txts {l : Addr} {items : Array Value} (ks : List Str) {Q : Value → Shared → Prop} (hh : A.handled = none) (hl : s.heap.IsList l items) (hit : StrsAre items.toList ks) (hfew : ks.length < 4000)
    (h : ∀ (h' : Heap) (tk : Nat) (m : Nat), m ≤ ks.length → SetS w h' s.heap.objs.size (fun k => decide (k ∈ ks)) m → (∀ b o, s.heap.get? b = some o → h'.get? b = some o) → Q (.ref s.heap.objs.size) { s with heap := h', toks := tk }) :
    wpAny (model P w) A (call (.type "set") [.ref l]) Q E s := by
  have hisz : items.size = ks.length := by rw [← Array.length_toList]; exact hit.length
  have hat : ∀ {vs : List Value} {ys : List Str}, StrsAre vs ys → ∀ (i : Nat) (v : Value), vs[i]? = some v → ∃ p tk, ys[i]? = some p ∧ v = .str p tk := by
    intro vs ys hs
    induction hs with
    | nil => intro i v hv; simp at hv
    | cons y t _ ih =>
      intro i v hv
      cases i with
      | zero => simp at hv; exact ⟨y, t, by simp, hv.symm⟩
      | succ i => simpa using ih i v (by simpa using hv)
  obtain ⟨c, tl, hmro⟩ := F.called_set.mro
  have hmade := F.called_set.made
  have hsub := F.called_set.sub
  refine wpAny_call (codeAny_of_tree ?_)
  show wpAny _ _ (callAny (.type "set") _) _ _ _
  refine wpAny_pure ⟨Code.quiet_builtin _ (by decide +kernel), codeAny_builtin F.entry_type_call ?_⟩
  rw [Around.under_plain (weight_type_call_type "set" [.ref l] []) rfl]
  have h1 := F.called_set.notType
  have h2 := F.called_set.canCreate
  have hct := F.typeCall_set_1 (.ref l)
  repeat (any_goals (first | assumption | wp_step))

  refine codeAny_mono (code_set_led1 (.ref l) (E := E) (Q₁ := fun obj s₁ => obj = .ref s.heap.objs.size ∧ s₁ = { s with heap := s.heap.push { cls := .type "set", dict := none, data := .set #[] 0 (.fresh 0 0 (!w.params.followText "set-order")) } }) ⟨rfl, rfl⟩) fun r s₁ hr => ?_
  cases r with
  | error e => exact hr
  | ok fl =>
    cases fl with
    | ret obj =>
      obtain ⟨rfl, rfl⟩ := hr
      have hS : (s.heap.push { cls := .type "set", dict := none, data := .set #[] 0 (.fresh 0 0 (!w.params.followText "set-order")) }).get? s.heap.objs.size = some { cls := .type "set", dict := none, data := .set #[] 0 (.fresh 0 0 (!w.params.followText "set-order")) } := Heap.get?_push_size _ rfl
      have hT : Shared.TypeIs { s with heap := s.heap.push { cls := .type "set", dict := none, data := .set #[] 0 (.fresh 0 0 (!w.params.followText "set-order")) } } (.ref s.heap.objs.size) "set" := ⟨_, hS, rfl⟩
      have hli := F.called_set.init.lookup
      have hbi := F.called_set.init.bind (.ref s.heap.objs.size)
      repeat (any_goals (first | assumption | wp_step))

      refine codeAny_mono (codeAny_call_builtin (R := wants (fun r s₂ => r = .none ∧ ∃ h' tk m, s₂ = { s with heap := h', toks := tk } ∧ m ≤ ks.length ∧ SetS w h' s.heap.objs.size (MemS ks ks.length) m ∧
          (∀ b o, s.heap.get? b = some o → h'.get? b = some o)) E) F.called_set.init.plain F.entry_set_init (check_set_init_1 hT ?_)) fun r₂ s₂ hr₂ => ?_
      · obtain ⟨ol, hol, hcl, nl, hdl⟩ := hl
        obtain ⟨ocls, odict, odata, oslots⟩ := ol
        simp only at hcl hdl
        subst hcl; subst hdl
        have hol' : (s.heap.push { cls := .type "set", dict := none, data := .set #[] 0 (.fresh 0 0 (!w.params.followText "set-order")) }).get? l = some { cls := .type "list", dict := odict, data := .seq items nl, slots := oslots } := Heap.get?_push_of_some _ hol
        have hsls := F.sub_list_set
        have hslf := F.sub_list_frozenset
        have hne : (Value.type "list" == Value.type "dict") = false := by decide
        have hl1 : (s.heap.push { cls := .type "set", dict := none, data := .set #[] 0 (.fresh 0 0 (!w.params.followText "set-order")) }).IsList l items := ⟨_, hol', rfl, nl, rfl⟩
        unfold Builtin.«set.__init__» noKeywords Builtin.Frozenset.updateFrom
        generalize hPI : pyIter = PI
        wp_walk
        subst hPI

        refine wpAny_pyIter_list hl1 ?_
        refine wpAny_bind (wpAny_runValue ?_)
        have hlS : l < s.heap.objs.size := Heap.lt_size hol
        have hh3 : A.in1.in1.in1.handled = none := by simp [hh]
        have hz1 : (s.heap.push { cls := .type "set", dict := none, data := .set #[] 0 (.fresh 0 0 (!w.params.followText "set-order")) }).objs.size = s.heap.objs.size + 1 := Heap.size_push ..
        have hneI : l ≠ (s.heap.push { cls := .type "set", dict := none, data := .set #[] 0 (.fresh 0 0 (!w.params.followText "set-order")) }).objs.size := by
          rw [Heap.size_push]; exact Nat.ne_of_lt (Nat.lt_succ_of_lt hlS)
        have hSf : s.heap.objs.size ∉ [(s.heap.push { cls := .type "set", dict := none, data := .set #[] 0 (.fresh 0 0 (!w.params.followText "set-order")) }).objs.size, l] := by
          rw [Heap.size_push]; simp only [List.mem_cons, List.mem_singleton, List.not_mem_nil, or_false, not_or]
          exact ⟨Nat.ne_of_lt (Nat.lt_succ_self _), Nat.ne_of_gt hlS⟩
        have hval : ∀ (i : Nat) (v : Value), items[i]? = some v → ∃ p tk, ks[i]? = some p ∧ v = .str p tk := fun i v hv => hat hit i v (by rw [Array.getElem?_toList]; exact hv)
        have none_of : ∀ b, s.heap.objs.size ≤ b → s.heap.get? b = none := fun b hb => by
          cases q : s.heap.get? b with
          | none => rfl
          | some o => exact absurd (Nat.lt_of_lt_of_le (Heap.lt_size q) hb) (Nat.lt_irrefl _)
        refine set_update_txts ((Walks.list hh3 _ l hneI items).toS) s.heap.objs.size
          hSf ks hisz hfew hval s.heap (none_of _ (Nat.le_refl _)) (fun b hb => none_of b (by
            rw [List.mem_singleton.mp hb, Heap.size_push]
            exact Nat.le_succ _)) (items.size - 0) 0 _ (by omega) (Nat.zero_le _)
          ⟨⟨_, Heap.get?_push_size _ rfl, rfl, rfl⟩, (hl1.push _)⟩ (fun b o e => Heap.get?_push_of_some _ (Heap.get?_push_of_some _ e)) ?hS0 ?hR
        case hS0 =>
          have hget : ((s.heap.push { cls := .type "set", dict := none, data := .set #[] 0 (.fresh 0 0 (!w.params.followText "set-order")) }).push { cls := .type "list_iterator", data := .fields #[.ref l, .int 0 0] }).get? s.heap.objs.size
              = some { cls := .type "set", dict := none, data := .set #[] 0 (.fresh 0 0 (!w.params.followText "set-order")) } := Heap.get?_push_of_some _ hS
          have q : SetS w ((s.heap.push { cls := .type "set", dict := none, data := .set #[] 0 (.fresh 0 0 (!w.params.followText "set-order")) }).push { cls := .type "list_iterator", data := .fields #[.ref l, .int 0 0] }) s.heap.objs.size (MemS ks 0) 0 := by
            have e : MemS ks 0 = fun _ => false := by funext k; simp [MemS]
            rw [e]
            exact setS_fresh hget
          exact ⟨0, Nat.le_refl _, q⟩
        case hR =>
          intro s' m hm hm2 hS' hkp
          obtain ⟨h', g2, d', tk', os'⟩ := s'
          have eg : g2 = s.gens := hm.gens
          have ed : d' = s.drawn := hm.drawn
          have eo : os' = s.os := hm.os
          subst eg; subst ed; subst eo
          show wpAny _ _ _ _ _ _
          refine wpAny_pure ?_
          show wpAny _ _ (ret Value.none) _ _ _
          rw [hisz] at hS' hm2
          exact wpAny_pure ⟨rfl, h', tk', m, rfl, hm2, hS', hkp⟩

      · cases r₂ with
        | error e => exact hr₂
        | ok fl₂ =>
          cases fl₂ with
          | ret r =>
            obtain ⟨rfl, h', tk, m, rfl, hm2, hS', hk'⟩ := hr₂
            have e : MemS ks ks.length = fun k => decide (k ∈ ks) := by funext k; simp [MemS]
            rw [e] at hS'
            repeat (any_goals (first | assumption | wp_step))
            exact h _ _ _ hm2 hS' hk'
          | _ => exact hr₂.elim
    | _ => exact hr.elim
/-! ### sorted -/
theorem strs_ofS : ∀ (l : List (Int × Value)), (∀ e ∈ l, GoodS w e) → StrsAre (l.map (·.2)) (l.map keyS)
  | [], _ => .nil
  | e :: l, h => by
    obtain ⟨k, tk, h1, _⟩ := h e List.mem_cons_self
    have e2 : keyS e = k := by unfold keyS; rw [h1]
    rw [List.map_cons, List.map_cons, h1, e2]
    exact .cons k tk (strs_ofS l fun u hu => h u (List.mem_cons_of_mem _ hu))
theorem strs_perm : ∀ {vs us : List Value}, us.Perm vs → ∀ {ks : List Str}, StrsAre vs ks → ∃ ls, StrsAre us ls ∧ ls.Perm ks := by
  intro vs us hp
  induction hp with
  | nil => intro ks h; cases h; exact ⟨[], .nil, .nil⟩
  | @cons x l1 l2 _ ih =>
    intro ks h
    cases h with
    | cons y t h' =>
      obtain ⟨ls, h1, h2⟩ := ih h'
      exact ⟨y :: ls, .cons y t h1, h2.cons y⟩
  | swap x y l =>
    intro ks h
    cases h with
    | cons a t h' =>
      cases h' with
      | cons b u h'' => exact ⟨b :: a :: _, .cons b u (.cons a t h''), List.Perm.swap _ _ _⟩
  | trans _ _ ih1 ih2 =>
    intro ks h
    obtain ⟨l1, a1, a2⟩ := ih2 h
    obtain ⟨l2, b1, b2⟩ := ih1 a1
    exact ⟨l2, b1, b2.trans a2⟩
theorem sorted_setS {S : Str → Bool} {n : Nat} {Q : Value → Shared → Prop} (R : SetS w s.heap a S n) (hh : A.handled = none) (h64 : n < 64)
    (hQ : ∀ s' p (out : Array Value) (c : Nat) (ys : List Str), (∀ b o, s.heap.get? b = some o → s'.heap.get? b = some o) → s'.gens = s.gens → s'.os = s.os → s.heap.objs.size ≤ p →
      s'.heap.get? p = some (seqObj "list" out c) → StrsAre out.toList ys → sortedS ys = true → ys.Nodup → (∀ k, k ∈ ys ↔ S k = true) → ys.length = n → Q (.ref p) s') :
    wpAny (model P w) A (call (.builtin "sorted") [.ref a]) Q E s := by
  obtain ⟨o, es, ep, t, ho, hex, hd, g, nd, hm, hb, hf, hn, hr, hl⟩ := R
  refine Calls.call_function_entry kind_sorted plain_sorted entry_sorted (args_sorted1 _) ?_
  unfold Builtin.«sorted»
  refine wpAny_bind (m := checkCount "sorted" 1 1 _) (wpAny_pure ?_)
  refine wpAny_bind (collect_set (A := A.in1) hh ⟨o, ho, hex.1, hd⟩ hf hb hr hl fun s1 vs k1 hz g1 o1 pm => ?_)
  have hvl : vs.length = n := by rw [pm.length_eq, List.length_map, Array.length_toList]; exact hn
  obtain ⟨ls, hI, pk⟩ := strs_perm pm (strs_ofS es.toList g)
  refine wpAny_bind (wpAny_newList ?_ (by rw [hvl, sizeLine_eq]; omega))
  have hoL : (s1.heap.push (seqObj "list" vs.toArray 0)).get? s1.heap.objs.size = some (seqObj "list" vs.toArray 0) := Heap.get?_push_size _ rfl
  refine wpAny_bind (wpAny_holding (wpAny_call_entry slot_list_sort ⟨_, hoL, rfl⟩ entry_list_sort
    (list_sort_treeK strKind_oneLt hoL hI.keysOf (fun v₁ v₂ rest e => keyKind_strs (by rw [← e]; exact hI)) (by rw [hvl]; exact h64) fun st' hp hs => ?_) (args_list_sort _)))
  obtain ⟨ys, a1, a2, a3⟩ := sorted_out_str hI hp hs
  obtain ⟨c, hc⟩ := sortedHeap_at (vs := vs) (out := (arrOf st').map (·.2)) hoL
  have pn : ys.Perm (es.toList.map keyS) := a2.trans pk
  refine ⟨_, rfl, wpAny_pure ⟨_, rfl, hQ _ s1.heap.objs.size ((arrOf st').map (·.2)) c ys (fun b u e => ?_) g1 o1 hz hc a1 a3 (pn.nodup_iff.mpr nd) (fun k => by rw [pn.mem_iff, ← hm k]) ?_⟩⟩
  · have q := k1 b u e
    have hlt := Heap.lt_size q
    show (sortedHeap (s1.heap.push (seqObj "list" vs.toArray 0)) s1.heap.objs.size vs _).get? b = some u
    rw [sortedHeap_old (Nat.ne_of_lt hlt) (by rw [size_push']; exact Nat.lt_succ_of_lt hlt)]
    exact Heap.get?_push_of_some _ q
  · rw [pn.length_eq, List.length_map, Array.length_toList]
    exact hn
end
end L2
end

section
set_option Elab.async false
set_option linter.all false
set_option maxRecDepth 100000
set_option maxHeartbeats 2000000
/-! DL, part 22: sorted(set(texts)), sorted(texts). -/
namespace L2
open PySem PySem.Spec PyProof.Rows
def SetSO (w : World) (a : Addr) (S : Str → Bool) (n : Nat) : HO := .ext fun h => SetS w h a S n
theorem setSO_new {P : Program} {w : World} {H : Hp} {h : Heap} {a : Addr} {S : Str → Bool} {n : Nat} (R : SetS w h a S n) : ObjOk P w H h a (SetSO w a S n) := by
  have ⟨o, es, ep, t, ho, r⟩ := R
  exact ⟨R, ⟨o, ho⟩, fun h1 h2 p k => p.at k⟩
section
variable {X : Cx}
def rSetOfS (K : PySem.W.Frag) (w : World) : List V → Hp → VK → Prop := fun xs H Q => ∃ (l : Addr) (ks : List Str), xs = [V.ref l] ∧ SqL K H l (ks.map V.str) ∧ ks.length < 4000 ∧ ∀ a m, H a = none → m ≤ ks.length → Q (.ref a) (upd H a (SetSO w a (fun k => decide (k ∈ ks)) m))
theorem cr_setOfS (hc : X.calm = true) : CallR X (.type "set") (rSetOfS X.K X.w) := by
  intro pins s σ H xs us Q I r h
  obtain ⟨l, ks, rfl, hs, hk, q⟩ := h
  obtain ⟨its, rv, hl, _⟩ := I.list hs
  rw [Vals.ref1 r]
  refine call_set_txts ks (I.ok.hd hc) hl.isList (by simpa using rv.strs) hk fun h' tk m hm R k => ?_
  have hn : H s.heap.objs.size = none := I.hok.fresh (Nat.le_refl _)
  exact ⟨.ref s.heap.objs.size, _, I.laid (t' := tk) k (Nat.le_refl _) (setSO_new R), rfl, q _ m hn hm⟩
def rSortedSetS (w : World) : List V → Hp → VK → Prop := fun vs H Q => ∃ (a : Addr) (S : Str → Bool) (n : Nat), vs = [V.ref a] ∧ H a = some (SetSO w a S n) ∧ n < 64 ∧
  ∀ (ys : List Str) (p : Addr), sortedS ys = true → ys.Nodup → (∀ k, k ∈ ys ↔ S k = true) → H p = none → Q (.ref p) (upd H p (.lst (ys.map V.str)))
theorem cr_sortedSetS (hc : X.calm = true) : CallR X (.builtin "sorted") (rSortedSetS X.w) := by
  intro pins s σ H vs us Q I r h
  obtain ⟨a, S, n, rfl, ha, h64, q⟩ := h
  have R : SetS X.w s.heap a S n := (I.hok a _ ha).1
  rw [Vals.ref1 r]
  refine sorted_setS R (I.ok.hd hc) h64 fun s' p out c ys k g o hp hg hi hs hd hm hl => ?_
  have hlen : (ys.map V.str).length ≤ sizeLine := by rw [List.length_map, hl, sizeLine_eq]; omega
  have hn : H p = none := I.hok.fresh hp
  have J : Inv X pins σ (upd H p (.lst (ys.map V.str))) { s with heap := s'.heap, gens := s'.gens, drawn := s'.drawn, toks := s'.toks } :=
    I.call (ch := []) (Un.laid k hp hn) (I.hok.laid k hp ⟨hlen, out.toList, c, vals_of_strs hi, hg⟩) (by rw [g]; exact I.bare) (fun _ z => nomatch z)
  have e : s' = { s with heap := s'.heap, gens := s'.gens, drawn := s'.drawn, toks := s'.toks } := by
    cases s'
    cases s
    cases o
    rfl
  rw [e]
  exact ⟨.ref p, _, J, rfl, q ys p hs hd hm hn⟩
end
end L2
namespace DL
open PySem PySem.Spec PyProof.Rows L2 LamX NdefX
/-! ### texts in a row -/
def ltS (x y : Str) : Prop := x.cps.toList < y.cps.toList
instance (x y : Str) : Decidable (ltS x y) := inferInstanceAs (Decidable (x.cps.toList < y.cps.toList))
theorem ltS_irrefl (x : Str) : ¬ ltS x x := List.lt_irrefl _
theorem ltS_trans {x y z : Str} (h : ltS x y) (g : ltS y z) : ltS x z := List.lt_trans h g
theorem cps_eq {x y : Str} (h : x.cps.toList = y.cps.toList) : x = y := by
  cases x; cases y
  simp only [Str.mk.injEq]
  exact Array.ext' h
theorem ltS_total {x y : Str} (h : ¬ ltS x y) (n : x ≠ y) : ltS y x := by
  unfold ltS at h ⊢
  rcases Decidable.em (y.cps.toList < x.cps.toList) with z | z
  · exact z
  · exact absurd (cps_eq (List.le_antisymm (List.not_lt.mp z) (List.not_lt.mp h))) n
def insU (x : Str) : List Str → List Str
  | [] => [x]
  | y :: r => if ltS x y then x :: y :: r else if x = y then y :: r else y :: insU x r
def usort : List Str → List Str
  | [] => []
  | x :: r => insU x (usort r)
theorem mem_insU {x k : Str} : ∀ {l : List Str}, k ∈ insU x l ↔ k = x ∨ k ∈ l
  | [] => by simp [insU]
  | y :: r => by
    unfold insU
    split
    · simp
    · split
      · rename_i h; subst h; simp
      · simp only [List.mem_cons, mem_insU (l := r)]
        exact ⟨fun h => by rcases h with h | h | h <;> simp [h], fun h => by rcases h with h | h | h <;> simp [h]⟩
theorem mem_usort {k : Str} : ∀ {l : List Str}, k ∈ usort l ↔ k ∈ l
  | [] => by simp [usort]
  | x :: r => by
    unfold usort
    rw [mem_insU, mem_usort (l := r), List.mem_cons]
theorem insU_sorted {x : Str} : ∀ {l : List Str}, l.Pairwise ltS → (insU x l).Pairwise ltS
  | [], _ => by simp [insU]
  | y :: r, h => by
    obtain ⟨h1, h2⟩ := List.pairwise_cons.mp h
    unfold insU
    split
    · rename_i hx
      refine List.pairwise_cons.mpr ⟨fun z hz => ?_, h⟩
      rcases List.mem_cons.mp hz with q | q
      · rw [q]; exact hx
      · exact ltS_trans hx (h1 z q)
    · rename_i hx
      split
      · exact h
      · rename_i hn
        refine List.pairwise_cons.mpr ⟨fun z hz => ?_, insU_sorted h2⟩
        rcases mem_insU.mp hz with q | q
        · rw [q]; exact ltS_total hx hn
        · exact h1 z q
theorem usort_sorted : ∀ l : List Str, (usort l).Pairwise ltS
  | [] => by simp [usort]
  | x :: r => insU_sorted (usort_sorted r)
theorem sorted_ext : ∀ {l m : List Str}, l.Pairwise ltS → m.Pairwise ltS → (∀ k, k ∈ l ↔ k ∈ m) → l = m
  | [], [], _, _, _ => rfl
  | [], y :: m, _, _, h => absurd ((h y).mpr List.mem_cons_self) (by simp)
  | x :: l, [], _, _, h => absurd ((h x).mp List.mem_cons_self) (by simp)
  | x :: l, y :: m, hl, hm, h => by
    obtain ⟨a1, a2⟩ := List.pairwise_cons.mp hl
    obtain ⟨b1, b2⟩ := List.pairwise_cons.mp hm
    have e : x = y := by
      rcases List.mem_cons.mp ((h x).mp List.mem_cons_self) with q | q
      · exact q
      · rcases List.mem_cons.mp ((h y).mpr List.mem_cons_self) with z | z
        · exact z.symm
        · exact absurd (ltS_trans (b1 x q) (a1 y z)) (ltS_irrefl _)
    subst e
    rw [sorted_ext a2 b2 fun k => ⟨fun hk => ?_, fun hk => ?_⟩]
    · rcases List.mem_cons.mp ((h k).mp (List.mem_cons_of_mem _ hk)) with q | q
      · rw [q] at hk; exact absurd (a1 x hk) (ltS_irrefl _)
      · exact q
    · rcases List.mem_cons.mp ((h k).mpr (List.mem_cons_of_mem _ hk)) with q | q
      · rw [q] at hk; exact absurd (b1 x hk) (ltS_irrefl _)
      · exact q
theorem rising_sorted : ∀ (ys : List Str) (x : Str), risingS x ys = true → (x :: ys).Nodup → (x :: ys).Pairwise ltS
  | [], x, _, _ => by simp
  | y :: r, x, h, nd => by
    unfold risingS at h
    simp only [Bool.and_eq_true, Bool.not_eq_true'] at h
    have hn : ¬ ltS y x := by
      have := h.1
      rw [ltCps_eq] at this
      exact of_decide_eq_false this
    have nd2 := (List.nodup_cons.mp nd)
    have hlt : ltS x y := ltS_total hn fun e => nd2.1 (by rw [e]; exact List.mem_cons_self)
    have ih := rising_sorted r y h.2 nd2.2
    refine List.pairwise_cons.mpr ⟨fun z hz => ?_, ih⟩
    rcases List.mem_cons.mp hz with q | q
    · rw [q]; exact hlt
    · exact ltS_trans hlt ((List.pairwise_cons.mp ih).1 z q)
theorem sorted_usort {ys ks : List Str} (h : sortedS ys = true) (nd : ys.Nodup) (hm : ∀ k, k ∈ ys ↔ k ∈ ks) : ys = usort ks := by
  refine sorted_ext ?_ (usort_sorted ks) fun k => (hm k).trans mem_usort.symm
  cases ys with
  | nil => simp
  | cons x r => exact rising_sorted r x h nd
def strsOf : List D → Option (List Str)
  | [] => some []
  | .str s :: ds => (strsOf ds).map (s :: ·)
  | _ => none
theorem strs_rep {M : Mp} {φ ψ : List Addr} {H : Hp} : ∀ {ds : List D} {vs : List V} {ks : List Str}, strsOf ds = some ks → RepL M φ ψ H ds vs → vs = ks.map V.str
  | [], vs, ks, h, r => by
    simp only [strsOf, Option.some.injEq] at h
    subst h
    simp only [RepL] at r
    exact r
  | d :: ds, vs, ks, h, r => by
    cases d <;> simp only [strsOf] at h <;> try cases h
    case str s =>
    obtain ⟨ls, h1, rfl⟩ := Option.map_eq_some_iff.mp h
    simp only [RepL] at r
    obtain ⟨x, xs, rfl, r1, r2⟩ := r
    simp only [Rep] at r1
    rw [r1, strs_rep h1 r2]
    rfl
theorem rep_strs {M : Mp} {φ ψ : List Addr} {H : Hp} : ∀ ks : List Str, RepL M φ ψ H (ks.map D.str) (ks.map V.str)
  | [] => .nil
  | k :: ks => .cons (by simp only [Rep]) (rep_strs ks)
/-- sorted(set(e)) -/
def sosM (m : En → Sto → R D) : En → Sto → R (List D) := fun env S => (m env S).bind fun d S1 => match asL S1 d with
  | some ds => (match strsOf ds with
    | some ks => if ks.length < 4000 ∧ ks.length < 64 then .ok ((usort ks).map D.str) S1 else .stuck
    | none => .stuck)
  | none => .stuck
section
variable {X : Cx} {M : Mp} {W : WX} {p p2 pos pos2 : Pos} {e : Expr} {m : En → Sto → R D}
theorem df_sos (hc : X.calm = true) (hm : X.mg "sorted" = none) (hm2 : X.mg "set" = none) (ha : DE X M W e m) (hK : X.K = M.K := by rfl) (hg : Gl X "sorted" := by rfl) (hg2 : Gl X "set" := by rfl)
    (he : starEach [e] X.env = (false, eval e X.env) :: starEach [] X.env := by rfl) (he2 : starEach [.Call (.Name "set" p2) [e] [] pos2] X.env = (false, eval (.Call (.Name "set" p2) [e] [] pos2) X.env) :: starEach [] X.env := by rfl)
    (hpl : (backTo pos (starEach [] X.env)).any (·.1) = false := by rfl) (hpl2 : (backTo pos2 (starEach [] X.env)).any (·.1) = false := by rfl) :
    DF X M W (.Call (.Name "sorted" p) [.Call (.Name "set" p2) [e] [] pos2] [] pos) (sosM m) := by
  refine pe_imp (pe_callB (cr_sortedSetS hc) hg hm (by decide +kernel) (pa_cons (pe_callTy (cr_setOfS hc) hg2 hm2 (by decide +kernel) (pa_cons ha pa_nil he) (by decide) (by decide) he hpl2) pa_nil he2) (by decide) (by decide) he2 hpl) fun σ H Q h => ?_
  refine rd_bindD h _ fun env φ1 ψ d v S1 H1 er sr r p => ?_
  split at p
  · rename_i ds e1
    split at p
    · rename_i ks e2
      split at p
      · rename_i hk
        obtain ⟨a, xs, rfl, h1, h2⟩ := at_L sr r e1
        have hx := strs_rep e2 h2
        subst hx
        refine ⟨a, ks, rfl, by rw [hK]; exact h1, hk.1, fun b n hb hn => ⟨b, _, n, rfl, upd_same, by omega, fun ys q hs nd hmem hq => ?_⟩⟩
        obtain ⟨eb, sb⟩ := sr.laid (o := SetSO X.w b (fun k => decide (k ∈ ks)) n) hb
        have hy : ys = usort ks := sorted_usort hs nd fun k => by rw [hmem k, decide_eq_true_eq]
        subst hy
        exact (p.ext eb).newF sb hq (rep_strs _)
      · exact p.elim
    · exact p.elim
  · exact p.elim
/-- sorted(e), texts, each once -/
def srtM (m : En → Sto → R D) : En → Sto → R (List D) := fun env S => (m env S).bind fun d S1 => match asL S1 d with
  | some ds => (match strsOf ds with
    | some ks => if ks.Nodup ∧ ks.length < 64 then .ok ((usort ks).map D.str) S1 else .stuck
    | none => .stuck)
  | none => .stuck
theorem df_srt (hm : X.mg "sorted" = none) (ha : DE X M W e m) (hK : X.K = M.K := by rfl) (hg : Gl X "sorted" := by rfl) (he : starEach [e] X.env = (false, eval e X.env) :: starEach [] X.env := by rfl) (hpl : (backTo pos (starEach [] X.env)).any (·.1) = false := by rfl) :
    DF X M W (.Call (.Name "sorted" p) [e] [] pos) (srtM m) := by
  refine pe_imp (pe_callB cr_sortedS hg hm (by decide +kernel) (pa_cons ha pa_nil he) (by decide) (by decide) he hpl) fun σ H Q h => ?_
  refine rd_bindD h _ fun env φ1 ψ d v S1 H1 er sr r p => ?_
  split at p
  · rename_i ds e1
    split at p
    · rename_i ks e2
      split at p
      · rename_i hk
        obtain ⟨a, xs, rfl, h1, h2⟩ := at_L sr r e1
        have hx := strs_rep e2 h2
        subst hx
        refine ⟨a, ks, rfl, by rw [hK]; exact h1, hk.2, fun ys q hp hs hq => ?_⟩
        have hy : ys = usort ks := sorted_usort hs (hp.nodup_iff.mpr hk.1) fun k => hp.mem_iff
        subst hy
        exact p.newF sr hq (rep_strs _)
      · exact p.elim
    · exact p.elim
  · exact p.elim
end
end DL
end

section
set_option Elab.async false
set_option linter.all false
set_option maxRecDepth 100000
set_option maxHeartbeats 2000000
/-! DL, part 23: repr; defs that are run where no guard is set. -/
namespace DL
open PySem PySem.Spec PyProof.Rows L2 LamX NdefX
def rRepr (K : PySem.W.Frag) : List V → Hp → VK → Prop := fun vs H Q => ∃ x p, vs = [x] ∧ Dp K H x p ∧ p.showable = true ∧ p.hasDict = false ∧ p.depth < 60 ∧ p.shown.length ≤ sizeLine ∧ Q (.str p.shown) H
theorem cr_repr {X : Cx} (hG : X.A.guards = some []) (hu : X.A.units + 64 < cLine) : CallR X (.builtin "repr") (rRepr X.K) := by
  intro pins s σ H vs us Q I r h
  obtain ⟨x, p, rfl, hd, h1, h2, h3, h4, q⟩ := h
  obtain ⟨u, rfl, rx⟩ := vals1 r
  obtain ⟨as, R⟩ := Dp.reads I p x u hd rx
  have ref : ∀ {a : Addr}, Reads s.heap (.ref a) p as → wpAny (model X.prog X.w) X.A (call (.builtin "repr") [.ref a]) (EP X pins σ Q) X.xe s := fun {a} R =>
    repr_of_reads' R h1 (PyData.noDict_hsm h2) hG (by omega) (fun b o e => e) (fun h' u tk hk => ⟨.str p.shown, H, I.kept (t' := tk) hk, ⟨u, rfl⟩, q⟩) h4
  cases R with
  | none => exact PySem.P.repr_of_none ⟨.str "None", H, I.tok _, ⟨_, rfl⟩, by simpa only [PyData.shown] using q⟩
  | bool b => exact PySem.P.repr_of_bool ⟨.str (if b then "True" else "False"), H, I.tok _, by
      cases b <;> exact ⟨_, rfl⟩, by
      simp only [PyData.shown] at q
      exact q⟩
  | int i t =>
    simp only [PyData.showable, decide_eq_true_eq] at h1
    exact PySem.P.repr_of_int h1 ⟨.str (toString i), H, I.tok _, ⟨_, rfl⟩, by simpa only [PyData.shown] using q⟩
  | str y t =>
    simp only [PyData.shown] at h4
    exact PySem.P.repr_of_str ⟨.str (reprText y), H, I.tok _, ⟨_, rfl⟩, by simpa only [PyData.shown] using q⟩ h4
  | list a b c d => exact ref (.list a b c d)
  | tuple a b c d => exact ref (.tuple a b c d)
  | dict a b c d e => exact ref (.dict a b c d e)
def reprG (S : Sto) : List D → R D
  | [d] => match toPy (view S d) with
    | some p => if (p.showable && !p.hasDict && decide (p.depth < 60) && decide (p.shown.length ≤ sizeLine)) = true then .ok (.str p.shown) S else .stuck
    | none => .stuck
  | _ => .stuck
theorem c_repr {X : Cx} {M : Mp} (hG : X.A.guards = some []) (hu : X.A.units + 64 < cLine) (hK : X.K = M.K := by rfl) : ∃ r, CallR X (.builtin "repr") r ∧ Call1 M r reprG := by
  refine ⟨_, cr_repr hG hu, ?_⟩
  intro φ ψ S H ds vs Q Wc s r p
  unfold reprG at p
  split at p
  · obtain ⟨v, rfl, h⟩ := r.one
    split at p
    · rename_i py e
      split at p
      · rename_i hc
        simp only [Bool.and_eq_true, Bool.not_eq_true', decide_eq_true_eq] at hc
        exact ⟨v, py, rfl, by rw [hK]; exact view_dp s h e, hc.1.1.1, hc.1.1.2, hc.1.2, hc.2, p.retD s (by simp only [Rep])⟩
      · exact p.elim
    · exact p.elim
  · exact p.elim

/-! ### run where no guard is set -/
structure FnG (P : Program) (w : World) (K : PySem.W.Frag) (mg : Str → Option Value) (base : Heap) (CX : CXT) (k : Nat) (f : Addr) (fd : FuncData) (ps : List Str) (sp : Sp) : Prop where
  len : ∀ vs H Q E, sp vs H Q E → vs.length = ps.length
  run : ∀ (A : Around) (outer : List Env) (s : Shared) (H : Hp) (args : Args) (us : List Value) (vs : List V) (Q : VK) (E : XK), Room k A → A.guards = some [] → Env0 P w K mg base A outer s H → BindsTo s fd args (ps.zip us) → Vals vs us → sp vs H Q E →
    codeAny (model P w) A (.call (.ref f) args) (CR CX outer P w H s Q E) s
theorem FnG.mono {P : Program} {w : World} {K : PySem.W.Frag} {mg : Str → Option Value} {base : Heap} {CX : CXT} {j k : Nat} {f : Addr} {fd : FuncData} {ps : List Str} {sp : Sp} (F : FnG P w K mg base CX j f fd ps sp) (h : j ≤ k) :
    FnG P w K mg base CX k f fd ps sp := ⟨F.len, fun A outer s H args us vs Q E hr => F.run A outer s H args us vs Q E (hr.mono h)⟩
theorem FnG.imp {P : Program} {w : World} {K : PySem.W.Frag} {mg : Str → Option Value} {base : Heap} {CX : CXT} {k : Nat} {f : Addr} {fd : FuncData} {ps : List Str} {sp sp' : Sp} (F : FnG P w K mg base CX k f fd ps sp)
    (h : ∀ vs H Q E, sp' vs H Q E → sp vs H Q E) : FnG P w K mg base CX k f fd ps sp' :=
  ⟨fun vs H Q E q => F.len vs H Q E (h _ _ _ _ q), fun A outer s H args us vs Q E hr hg e0 hb r q => F.run A outer s H args us vs Q E hr hg e0 hb r (h _ _ _ _ q)⟩
theorem fn_ofG {CX : CXT} {P : Program} {w : World} {K : PySem.W.Frag} {mg : Str → Option Value} {base : Heap} {k : Nat} {f : Addr} {name qual : Str} {params : Arguments} {body : List Stmt} {scope : Scope} {dV kV doc pm cdv ct oc : Value} {an od : Option Addr}
    {osl : Array (Option Value)} {N ps : List Str} {sp : Sp} (lk : K.lookup f = some ⟨oc, od, .func (PySem.W.fnOf name qual params body scope dV kV doc pm an cdv ct), osl⟩) (hcd : PySem.W.codeIn K cdv qual = true) (S : FnScope N ps scope)
    (len : ∀ vs H Q E, sp vs H Q E → vs.length = ps.length)
    (hbody : ∀ (A : Around) (outer : List Env) (s : Shared) (H : Hp) (vs : List V) (Q : VK) (E : XK), Room k (A.deeper (envOfC qual scope s.heap.objs.size f cdv)) → A.guards = some [] → sp vs H Q E →
      ∃ t, PSs (cxOf CX P w K mg base N qual scope f cdv A outer s H E) body t ∧ t { nx := fun _ H' => Q .non H', rt := Q } (start N vs) H) :
    FnG P w K mg base CX (k + 1) f (PySem.W.fnOf name qual params body scope dV kV doc pm an cdv ct) ps sp := by
  refine ⟨len, fun A outer s H args us vs Q E hr hgd e0 hb r hsp => ?_⟩
  have hl := len _ _ _ _ hsp
  have KX : K.In s.heap := e0.mod.kin.keeps fun b o e => (e0.bs b o e).1
  have lim : s.heap.NoLimit := e0.mod.nolimit.keeps fun b o e => (e0.bs b o e).1
  have hkind : ∀ y ∈ ps.zip us, scope.names.lookup y.1 = some .local ∨ (scope.names.lookup y.1 = some .cell ∧ ((cellsFrom (s.heap.objs.size + 1) scope.names []).lookup y.1).isSome = true) := fun ⟨n, v⟩ hy => by
    rcases S.par n (List.of_mem_zip hy).1 with q | q
    · exact .inl q
    · exact .inr ⟨q, PySem.W.cellsFrom_some _ _ _ (.inl q)⟩
  refine codeAny_call_function hr.depth (KX _ _ lk) rfl S.co S.gen rfl (PySem.W.codeRec_of KX hcd) (hb _ _ _ _ ?_)
  refine wpAny_newFunctionEnv_cells S.kind hkind fun env he s1 x => ?_
  subst he
  refine ⟨lim.keeps x.toInCall.keep, codeAny_func ?_⟩
  obtain ⟨t, ht, hq⟩ := hbody A outer s H vs Q E (hr.deeper _) hgd hsp
  have I : Inv (cxOf CX P w K mg base N qual scope f cdv A outer s H E) [] (start N vs) H s1 := inv_start S hr.hd e0 hl r x
  refine wpAny_mono (ht.run [] s1 (start N vs) H _ I hq) (fun fl s' hs => ?_) fun e s' hs => hs
  have fin : ∀ {σ' : L2.St} {H' : Hp} {v : V} {u : Value}, Inv (cxOf CX P w K mg base N qual scope f cdv A outer s H E) [] σ' H' s' → RelV v u → Q v H' → CE outer P w H s Q u s' :=
    fun {σ' H' v u} J rv q => ⟨v, H', J.os, J.bare, J.base, J.hok, rv, q⟩
  cases fl with
  | ret u =>
    obtain ⟨v, σ', H', J, rv, q⟩ := hs
    exact fin J rv q
  | next =>
    obtain ⟨σ', H', J, q⟩ := hs
    exact fin (v := V.non) (u := Value.none) J rfl q
  | brk =>
    obtain ⟨_, _, _, q⟩ := hs
    exact False.elim q
  | cont =>
    obtain ⟨_, _, _, q⟩ := hs
    exact False.elim q
section
variable {P : Program} {w : World} {M : Mp} {mg : Str → Option Value} {base : Heap} {N ps : List Str} {k : Nat} {m : FM} {x : Str} {st : Stmt} {fa c : Addr} {fd : FuncData}
theorem fn_dlGC {own : Nat → Option Cd} (F : FunC M.K x st fa c fd) (S : FnScope N ps (C8.fnScope st)) (ok : M.Ok)
    (hb : ∀ (X : Cx) (A : Around) (outer : List Env) (s : Shared) (H : Hp) (E : XK), X = cxOf (L2.CX P w) P w M.K mg base N x (C8.fnScope st) fa (.ref c) A outer s H E → Bd (cxOf (L2.CX P w) P w M.K mg base N x (C8.fnScope st) fa (.ref c) A outer s H E) (wE E) k → Own (cxOf (L2.CX P w) P w M.K mg base N x (C8.fnScope st) fa (.ref c) A outer s H E) → A.guards = some [] →
      DSs (cxOf (L2.CX P w) P w M.K mg base N x (C8.fnScope st) fa (.ref c) A outer s H E) (openM M (cxOf (L2.CX P w) P w M.K mg base N x (C8.fnScope st) fa (.ref c) A outer s H E) own) (wE E) (C8.fnBody st) m) :
    FnG P w M.K mg base (L2.CX P w) (k + 1) fa fd ps (spM M ps.length (subM (bodyM N.length m))) := by
  obtain ⟨oc, od, dV, kV, doc, pm, an, ct, osl, rfl, lk, hcd⟩ := F.ex
  refine fn_ofG lk hcd S (fun vs H Q E h => h.len) fun A outer s H vs Q E hr hg h => ⟨_, hb _ A outer s H E rfl ⟨hr, L2.takes_of (E := E) rfl rfl rfl rfl, rfl, S.nd⟩ (L2.passes_of rfl) hg, ?_⟩
  have h' : spM (openM M (cxOf (L2.CX P w) P w M.K mg base N x (C8.fnScope st) fa (.ref c) A outer s H E) own) ps.length (bodyM N.length m) vs H Q E := h.sub (openM_agr M _ own).symm (openM_ok ok _ own)
  obtain ⟨ds, S, φ, ψ, h1, r, sr, p⟩ := h'
  exact ⟨_, S, φ, ψ, ERel.start r, sr, bodyM_post p⟩
theorem fn_dlG (F : FunD M.K x x (C8.fnArgs st) (C8.fnBody st) (C8.fnScope st) [] [] fa fd) (S : FnScope N ps (C8.fnScope st))
    (hb : ∀ (X : Cx) (cdv : Value) (A : Around) (outer : List Env) (s : Shared) (H : Hp) (E : XK), X = cxOf (L2.CX P w) P w M.K mg base N x (C8.fnScope st) fa cdv A outer s H E → Bd (cxOf (L2.CX P w) P w M.K mg base N x (C8.fnScope st) fa cdv A outer s H E) (wE E) k → Own (cxOf (L2.CX P w) P w M.K mg base N x (C8.fnScope st) fa cdv A outer s H E) → A.guards = some [] →
      DSs (cxOf (L2.CX P w) P w M.K mg base N x (C8.fnScope st) fa cdv A outer s H E) M (wE E) (C8.fnBody st) m) : FnG P w M.K mg base (L2.CX P w) (k + 1) fa fd ps (spM M ps.length (bodyM N.length m)) := by
  obtain ⟨oc, od, dV, kV, doc, pm, an, cdv, ct, osl, rfl, lk, hcd, _, _⟩ := F.ex
  refine fn_ofG lk hcd S (fun vs H Q E h => h.len) fun A outer s H vs Q E hr hg h => ⟨_, hb _ cdv A outer s H E rfl ⟨hr, L2.takes_of (E := E) rfl rfl rfl rfl, rfl, S.nd⟩ (L2.passes_of rfl) hg, ?_⟩
  obtain ⟨ds, S, φ, ψ, h1, r, sr, p⟩ := h
  exact ⟨_, S, φ, ψ, ERel.start r, sr, bodyM_post p⟩
structure FOkG (P : Program) (w : World) (M : Mp) (mg : Str → Option Value) (base : Heap) (k : Nat) (x : Str) (st : Stmt) (ps : List Str) (f : DL.Fn) : Prop where
  ex : ∃ fa fd, FnD M.K x st fa fd ∧ FnG P w M.K mg base (L2.CX P w) k fa fd ps (spM M ps.length f) ∧ mg x = some (.ref fa) ∧ Binds M.K fd ps []
theorem FOkG.sub {f : DL.Fn} (h : FOkG P w M mg base k x st ps f) (ok : M.Ok) : FOkG P w M mg base k x st ps (subM f) := by
  obtain ⟨fa, fd, h1, h2, h3⟩ := h.ex
  exact ⟨fa, fd, h1, h2.imp fun vs H Q E q => q.sub (.refl M) ok, h3⟩
end
section
variable {X : Cx} {M : Mp} {W : WX} {x : Str} {p pos : Pos} {e : Expr} {es : List Expr} {ms : En → Sto → R (List D)} {k j : Nat} {st : Stmt} {ps : List Str} {f : DL.Fn}
theorem run_fnG {pins : List (Addr × Obj)} {σ : L2.St} {H : Hp} {s : Shared} {Q : VK} {us : List Value} {vs : List V} {fa : Addr} {fd : FuncData} {sp : Sp} {E : XK} (F : FnG X.prog X.w X.K X.mg X.base (L2.CX X.prog X.w) k fa fd ps sp) (hr : Room k X.A) (hG : X.A.guards = some []) (hb : Binds X.K fd ps []) (hx : PassesAt (L2.CX X.prog X.w) X σ E)
    (I : Inv X pins σ H s) (r : Vals vs us) (h : sp vs H Q E) : wpAny (model X.prog X.w) X.A (call (.ref fa) us) (EP X pins σ Q) X.xe s := by
  have hl : (us ++ []).length = ps.length := by rw [List.append_nil, ← r.length]; exact F.len _ _ _ _ h
  refine wpAny_call (codeAny_mono (F.run X.A X.stack s H ⟨us, []⟩ us vs Q E hr hG I.env0 (by simpa using hb s us I.kIn hl) r h) fun r s' hq => ?_)
  cases r with
  | error e => exact hx pins H s e s' I hq
  | ok fl =>
    cases fl with
    | ret u => exact I.after hq
    | next => exact False.elim hq
    | brk => exact False.elim hq
    | cont => exact False.elim hq
theorem de_callG (hG : X.A.guards = some []) (B : Bd X W k) (F : FOkG X.prog X.w M X.mg X.base j x st ps f) (ha : DA X M W (e :: es) ms) (hj : j ≤ k := by first | decide | omega) (hg : Gl X x := by rfl) (hK : X.K = M.K := by rfl) (hl : LenM ms ps.length := by repeat first | exact lenM_nil | apply lenM_cons)
    (hdb : (x == ("__debug__" : Str)) = false := by decide) (he : starEach (e :: es) X.env = (false, eval e X.env) :: starEach es X.env := by rfl) (hpl : (backTo pos (starEach es X.env)).any (·.1) = false := by rfl) :
    DE X M W (.Call (.Name x p) (e :: es) [] pos) (callM f ms) := by
  obtain ⟨fa, fd, h1, h2, h3, h4⟩ := F.ex
  rw [← hK] at h1 h2 h4
  refine ⟨fun pins s σ H Q I h => ?_⟩
  obtain ⟨env, S, φ, ψ, er, sr, q⟩ := h
  unfold callM at q
  refine wpAny_Call_Name_kw (ld_glob I hg h3 ?_ hdb)
  refine PySem.W.callWith_K (h₀ := X.base) I.ok.mod.kin h1.kp (thn (ha.run pos pins s σ H (fun vs H2 => spM M ps.length f vs H2 Q (WE W σ)) I ⟨env, S, φ, ψ, er, sr, Post.cut (rp1 := rpA M ψ) q _ fun φ1 H1 a b S1 ea e1 ⟨s1, r1⟩ p1 => ⟨a, S1, φ1, ψ, hl env S a S1 ea, r1, s1, p1⟩⟩) fun us s2 ⟨vs, H2, I2, r, q⟩ => ⟨I2.kIn, run_fnG h2 (B.at_ hj) hG h4 (passAt B.tk σ) I2 r q⟩) he hpl
end
end DL
end

section
set_option Elab.async false
set_option linter.all false
set_option maxRecDepth 100000
set_option maxHeartbeats 2000000
/-! DL, part 24: a comprehension that hands the frame's made functions on: [f(x)[j] for x in xs] (the block knows what the frame's cells hold). The core follows HandS.Comp's. -/
namespace L2
open PySem PySem.Spec PyProof.Rows
section
variable {X : Cx}
theorem lc_coreO {pins : List (Addr × Obj)} {s : Shared} {σ : St} {H : Hp} {Q : VK} {elt tg iter : Expr} {ifs : List Expr} {scope : Scope} {own : List (Str × Nat)} {pos pos' : Pos} {wi : TI} {g : TG} {tt : TT} {te : St → TE} {use : Option (Value → Sem Unit)} {Qf : Value → Shared → Prop}
    (hc : X.calm = true) (hN : X.N.Nodup) (I : Inv X pins σ H s) (hi : PI X tg iter wi) (ok : BlkOk X.N X.env.scope scope own)
    (hg : ∀ (s : Shared) (H : Hp) (C : Addr) (cl : List (Str × Addr)) (fp : List Addr), PG (X.blk s H scope (compEnvC scope cl C X.env) fp) tg g) (ht : ∀ (s : Shared) (H : Hp) (C : Addr) (cl : List (Str × Addr)) (fp : List Addr), PTs (X.blk s H scope (compEnvC scope cl C X.env) fp) ifs tt)
    (he : ∀ (pins : List (Addr × Obj)) (σ : St) (s : Shared) (H : Hp) (C : Addr) (cl : List (Str × Addr)) (fp : List Addr), Inv X pins σ H s → (∀ b ∈ fp, FpOk X pins H b) → PE (X.blk s H scope (compEnvC scope cl C X.env) fp) elt (te σ)) (hs : ∀ x, foldedSetIterable iter X.env x = pure x)
    (h : tLc wi g tt (te σ) (own.map (·.2)) σ H Q)
    (hRR : ∀ D C s' m H', Inv X pins σ H' s' → Q (.ref D) H' → s'.heap.Ns C m → FpOk X pins H' C → compPost (model X.prog X.w) X.A X.xe use Qf (.ref D) C (.ok .next) s') :
    wpAny (model X.prog X.w) X.A (comprehension (.ListComp elt [⟨tg, iter, ifs, 0⟩] scope pos) scope X.env pos' (newList []) false (eval iter X.env) use) Qf X.xe s := by
  have hfree : ∀ y ∈ scope.names, y.2 = .free → ∃ c, X.env.cells.lookup y.1 = some c := fun y hy e => by
    rcases ok.free y hy e with k | k
    · exact I.ok.has _ (.inl k)
    · exact I.ok.has _ (.inr k)
  refine wpAny_comprehension_free (use := use) rfl hs (closure_ok hfree) ok.kind (fun y hy e => by rw [ok.uniq y hy, e])
    (thn (hi.run pins s σ H _ I h) fun xv s1 hx => thn hx fun itv s2 h2 => ?_)
  obtain ⟨it, fp, tn, J, H2, e, I2, T, st2, f2, q⟩ := h2
  subst e
  refine wpAny_newObj_type (newEnv_comp ?_) (by show 0 ≤ sizeLine; decide)
  generalize hD : s2.heap.objs.size = D
  have hDn : H2 D = none := I2.hok.fresh (Nat.le_of_eq hD)
  obtain ⟨W, ⟨m0, w0⟩, turn⟩ := q D hDn
  -- the new list
  generalize hs3 : ({ s2 with heap := s2.heap.push { cls := .type "list", data := .seq ([] : List Value).toArray } } : Shared) = s3
  have I3 : Inv X pins σ (upd H2 D (.lst [])) s3 := by
    rw [← hs3]
    refine I2.laid (t' := s2.toks) (fun b o e => Heap.get?_push_of_some _ e) (Nat.le_of_eq hD) ⟨Nat.zero_le _, [], 0, .nil, ?_⟩
    rw [← hD]
    exact Heap.get?_push_size _ rfl
  have h3 : s3.heap = s2.heap.push { cls := .type "list", data := .seq ([] : List Value).toArray } := by rw [← hs3]
  have sz : ∀ b ∈ fp, b < s2.heap.objs.size := fun b hb => by
    obtain ⟨o, e, _⟩ := T.obj _ _ st2 b hb
    exact Heap.lt_size e
  have f3 : ∀ b ∈ fp, FpOk X pins (upd H2 D (.lst [])) b ∧ b < s3.heap.objs.size := fun b hb => by
    have hlt := sz b hb
    refine ⟨⟨?_, (f2 b hb).2⟩, by rw [h3, Heap.size_push]; exact Nat.lt_succ_of_lt hlt⟩
    rw [upd_ne (by rw [← hD]; exact Nat.ne_of_lt hlt)]
    exact (f2 b hb).1
  have st3 : tn 0 s3.heap := T.keep _ _ _ st2 fun b _ o e => by rw [h3]; exact Heap.get?_push_of_some _ e
  have I4 := block_start I3 ok hN f3
  have pg := hg s3 (upd H2 D (.lst [])) s3.heap.objs.size (cellsFrom (s3.heap.objs.size + 1) scope.names (cloFrom X.env.cells scope.names [])) fp
  have pt := ht s3 (upd H2 D (.lst [])) s3.heap.objs.size (cellsFrom (s3.heap.objs.size + 1) scope.names (cloFrom X.env.cells scope.names [])) fp
  have pe := he pins σ s3 (upd H2 D (.lst [])) s3.heap.objs.size (cellsFrom (s3.heap.objs.size + 1) scope.names (cloFrom X.env.cells scope.names [])) fp I3 (fun b hb => (f3 b hb).1)
  show codeAny _ _ (.compStart (.ListComp elt [⟨tg, iter, ifs, 0⟩] scope pos) 0 (.ref it) (.ref D) (compEnvC scope (cellsFrom (s3.heap.objs.size + 1) scope.names (cloFrom X.env.cells scope.names [])) s3.heap.objs.size X.env)) (compPost (model X.prog X.w) X.A X.xe use Qf (.ref D) s3.heap.objs.size) { s3 with heap := pushCells (s3.heap.push { cls := .type "dict", data := .dict #[] }) scope.names }
  have nfp : ∀ b ∈ fp, (upd H2 D (.lst [])) b = none := fun b hb => (f3 b hb).1.1
  generalize hce : compEnvC scope (cellsFrom (s3.heap.objs.size + 1) scope.names (cloFrom X.env.cells scope.names [])) s3.heap.objs.size X.env = ce at I4 pg pt pe ⊢
  have cL : ce.locals = s3.heap.objs.size := by subst hce; rfl
  generalize hH3 : upd H2 D (.lst []) = H3 at I3 I4 pg pt pe w0 nfp f3
  generalize hs4 : ({ s3 with heap := pushCells (s3.heap.push { cls := .type "dict", data := .dict #[] }) scope.names } : Shared) = s4 at I4 ⊢
  have st4 : tn 0 s4.heap := T.keep _ _ _ st3 fun b _ o e => by rw [← hs4]; exact pushCells_keeps _ _ _ _ (Heap.get?_push_of_some _ e)
  have stat : ∀ {σ' : St} {H' : Hp} {s' : Shared}, Inv (X.blk s3 H3 scope ce fp) [] σ' H' s' → (∀ b ∈ fp, H' b = none) → ∀ b ∈ fp, FpOk (X.blk s3 H3 scope ce fp) [] H' b := fun {σ' H' s'} I' hn b hb =>
    ⟨hn b hb, (I'.ok.exf b hb).1, I'.ok.exfs b hb, .inl hb, fun x c e => (I'.ok.exf b hb).2 x c e, fun p hp => absurd (show p ∈ ([] : List (Addr × Obj)) ++ [] from hp) (by simp)⟩
  have loop : codeAny (model X.prog X.w) X.A (.compLoop (.ListComp elt [⟨tg, iter, ifs, 0⟩] scope pos) 0 (.ref it) (.ref D) ce) (compPost (model X.prog X.w) X.A X.xe use Qf (.ref D) s3.heap.objs.size) s4 := by
    refine compLoop_any (fun n s' => ∃ i H', Inv (X.blk s3 H3 scope ce fp) [] (wipe σ (own.map (·.2))) H' s' ∧ tn i s'.heap ∧ (∀ b ∈ fp, H' b = none) ∧ W i n H') ?_ m0 ⟨0, H3, I4, st4, nfp, w0⟩
    rintro n s5 ⟨i, H5, I5, st5, n5, w5⟩
    rcases turn i n H5 w5 with ⟨stop, qq⟩ | ⟨go, Nx, hNx, step⟩
    · have td := T.done (X.blk s3 H3 scope ce fp) rfl rfl rfl hc i [] s5 _ H5 (fun _ _ => False) I5 (stat I5 n5) st5 stop
      refine thnF td fun r s6 ⟨hr, I6⟩ => ?_
      subst hr
      -- back in the def's context
      have I7 : Inv X pins σ H5 s6 := I3.call' (ch := fp) I6.os I6.base I6.hok I6.bare fun b hb => ⟨(f3 b hb).1.2.2.2.1, (f3 b hb).1.2.1, (f3 b hb).1.2.2.2.2.1, (f3 b hb).1.2.2.2.2.2⟩
      have nC : H5 s3.heap.objs.size = none := by
        have z : H5 ce.locals = none := I6.free
        rw [cL] at z
        exact z
      obtain ⟨m, hn, _⟩ := I6.loc
      have hn : s6.heap.Ns ce.locals m := hn
      rw [cL] at hn
      exact hRR D s3.heap.objs.size s6 m H5 I7 qq hn (I3.fpOk (Nat.le_refl _) nC)
    · have ti := T.item (X.blk s3 H3 scope ce fp) rfl rfl rfl hc i [] s5 _ H5 (fun _ _ => False) I5 (stat I5 n5) st5 go
      refine thnF ti fun r s6 ⟨u, hr, h6⟩ => ?_
      subst hr
      refine thnF h6 fun _ s7 ⟨x, H7, I7, r7, y7, st7, n7⟩ => ?_
      have I7' := I7.pinned (stat I7 n7) (T.obj _ _ st7)
      refine thnF (pg.run _ s7 _ H7 x u _ I7' r7 (step x H7 y7)) fun _ s8 ⟨σ8, H8, I8, hw8, q8⟩ => ?_
      refine thnF (pt.run _ s8 σ8 H8 _ I8 q8) fun b s9 ⟨H9, I9, q9⟩ => ?_
      -- the turn's end
      have fin : ∀ {s' : Shared} {H' : Hp}, Inv (X.blk s3 H3 scope ce fp) ([] ++ pinsAt fp s7.heap) σ8 H' s' → Nx H' → ∃ m, m < n ∧ ∃ i H', Inv (X.blk s3 H3 scope ce fp) [] (wipe σ (own.map (·.2))) H' s' ∧ tn i s'.heap ∧ (∀ b ∈ fp, H' b = none) ∧ W i m H' := fun {s' H'} I' nx => by
        obtain ⟨m', hm, w'⟩ := hNx H' nx
        have pin' : ∀ b ∈ fp, ∀ o, s7.heap.get? b = some o → s'.heap.get? b = some o ∧ H' b = none := fun b hb o e =>
          let z := I'.pin (b, o) (List.mem_append_right _ (List.mem_append_right _ (mem_pinsAt hb e)))
          ⟨z.1, z.2.1⟩
        have hl : (wipe σ (own.map (·.2))).length = σ8.length := by rw [← hw8, wipe_length]
        refine ⟨m', hm, i + 1, H', (I'.unpinned (pins := [])).weak hl (fun j v e => ?_), T.keep _ _ _ st7 fun b hb o e => (pin' b hb o e).1, fun b hb => ?_, w'⟩
        · rw [← hw8] at e
          exact (wipe_some e).1
        · obtain ⟨o, e, _⟩ := T.obj _ _ st7 b hb
          exact (pin' b hb o e).2
      cases b with
      | false =>
        simp only [Bool.false_eq_true, if_false] at q9 ⊢
        exact fin I9 q9
      | true =>
        simp only [if_true] at q9 ⊢
        refine thnF (pe.run _ s9 σ8 H9 _ I9 q9) fun z s10 ⟨yv, H10, I10, r10, acc, hD10, hz10, nx⟩ => ?_
        exact app_ok (X := X.blk s3 H3 scope ce fp) I10 hD10 hz10 r10 fun s11 I11 => fin I11 nx
  exact codeAny_compStart_list loop (T.self X.A 0 _ _ _ st4 loop)
theorem ps_setLcO {i : Nat} {y : Str} {py : Pos} {elt tg iter : Expr} {ifs : List Expr} {scope : Scope} {own : List (Str × Nat)} {pos spos : Pos} {wi : TI} {g : TG} {tt : TT} {te : St → TE} (hc : X.calm = true) (hN : X.N.Nodup) (hy : X.N[i]? = some y) (hyl : X.env.scope.names.lookup y = some .local)
    (hsw : swapsWith (.ListComp elt [⟨tg, iter, ifs, 0⟩] scope pos) (some (.Name y py)) spos.line X.env = pure true) (hi : PI X tg iter wi) (ok : BlkOk X.N X.env.scope scope own)
    (hg : ∀ (s : Shared) (H : Hp) (C : Addr) (cl : List (Str × Addr)) (fp : List Addr), PG (X.blk s H scope (compEnvC scope cl C X.env) fp) tg g) (ht : ∀ (s : Shared) (H : Hp) (C : Addr) (cl : List (Str × Addr)) (fp : List Addr), PTs (X.blk s H scope (compEnvC scope cl C X.env) fp) ifs tt)
    (he : ∀ (pins : List (Addr × Obj)) (σ : St) (s : Shared) (H : Hp) (C : Addr) (cl : List (Str × Addr)) (fp : List Addr), Inv X pins σ H s → (∀ b ∈ fp, FpOk X pins H b) → PE (X.blk s H scope (compEnvC scope cl C X.env) fp) elt (te σ)) (hs : ∀ x, foldedSetIterable iter X.env x = pure x := by intro _; rfl) :
    PS X (.Assign [.Name y py] (.ListComp elt [⟨tg, iter, ifs, 0⟩] scope pos) spos) (tAsg (fun σ H Q => tLc wi g tt (te σ) (own.map (·.2)) σ H Q) (gName i)) := by
  refine ⟨fun pins s σ H D I h => ?_⟩
  rw [exec_Assign_Name_used _ _ _ _ hsw]
  refine wpAny_bind (wpAny_standAt (wpAny_bind ?_))
  show wpAny _ X.A (do let _ ← comprehension (.ListComp elt [⟨tg, iter, ifs, 0⟩] scope pos) scope X.env (firstIterPos [⟨tg, iter, ifs, 0⟩] pos) (newList []) false (eval iter X.env) (some (assign (.Name y py) X.env))) _ _ s
  have h : tLc wi g tt (te σ) (own.map (·.2)) σ H (fun x H1 => gName i x σ H1 D.nx) := h
  refine wpAny_bind (thn (lc_coreO (Qf := fun _ s' => SP X pins D .next s') hc hN I hi ok hg ht he hs h fun L C s' m H' I' q hn f => ?_) fun _ s' hq => wpAny_pure (wpAny_pure hq))
  show wpAny _ _ (assign (.Name y py) X.env (.ref L)) _ _ _
  refine wpAny_assign_Name (store_ok2 (v := V.ref L) I' hN hy (.inl hyl) rfl (fun s2 I2 ⟨a, sb, ha⟩ => ?_) (.inr hyl))
  obtain ⟨f0, f1, f2, f3, f4, f5⟩ := f
  have haC : C ≠ a := by
    rcases ha with z | z
    · rw [z]; exact f1
    · exact fun e => f4 y a z e.symm
  refine ⟨m, hn.sameBut sb haC, fun h3 sb3 => ?_⟩
  exact ⟨_, H', I2.turned (t' := s2.toks) (fun b o hb e => (sb3.2 b hb).trans e) f0 f1 f3 f4 f5, q⟩
end
end L2
namespace DL
open PySem PySem.Spec PyProof.Rows L2 LamX NdefX
/-- the outer slots stand -/
theorem tLc_keep {M : Mp} {wi : TI} {i : Nat} {mt : En → Sto → R Bool} {te : TE} {vs : List Nat} {σ : L2.St} {H : Hp} {Q : VK} (h : tLc wi (gName i) (rdB M W0 mt) te vs σ H Q) (hm : ∀ {Q Q' : It → Hp → Prop} {H : Hp}, wi σ H Q → (∀ J H', Q J H' → Q' J H') → wi σ H Q') :
    tLc wi (gName i) (rdB M W0 mt) (fun σ2 H Q => wipe σ2 vs = wipe σ vs ∧ te σ2 H Q) vs σ H Q := by
  refine hm h fun J H1 q D hD => ?_
  obtain ⟨Wt, h0, st⟩ := q D hD
  refine ⟨Wt, h0, fun i m H2 w => ?_⟩
  rcases st i m H2 w with z | ⟨go, Nx, n1, n2⟩
  · exact .inl z
  · refine .inr ⟨go, Nx, n1, fun x H3 y => ?_⟩
    obtain ⟨e, env, S, φ, ψ, er, sr, p⟩ := n2 x H3 y
    refine ⟨e, env, S, φ, ψ, er, sr, p.imp fun b H4 r => ?_⟩
    cases b with
    | false => exact r
    | true => exact ⟨e, r⟩
end DL
end

section
set_option Elab.async false
set_option linter.all false
set_option maxRecDepth 100000
set_option maxHeartbeats 2000000
/-! DL, part 25: f(x)[j] within a comprehension's block, x a made function of the frame around it. -/
namespace DL
open PySem PySem.Spec PyProof.Rows L2 LamX NdefX
section
variable {X Y : Cx} {M : Mp} {W : WX} {pins : List (Addr × Obj)} {σ : L2.St} {k j : Nat} {ps : List Str} {f : DL.Fn} {own : Nat → Option Cd}
/-- a call to which the cells C are shown -/
theorem callO_core {H1 : Hp} {s1 : Shared} {C : Addr → Option Obj} {φ1 ψ1 : List Addr} {S1 : Sto} {ds' : List D} {vs : List V} {us : List Value} {fa : Addr} {fd : FuncData} {Q : VK} (ok : M.Ok) (I1 : Inv Y pins σ H1 s1) (aw : Away C H1) (get : ∀ a ob, C a = some ob → s1.heap.get? a = some ob) (nb : ∀ a ob, C a = some ob → Y.base.get? a = none) (nf : ∀ a ob, C a = some ob → a ∉ frs Y.stack)
    (tk : L2.Takes Y W) (hr : Room j Y.A) (h2 : FnOk Y.prog Y.w Y.K Y.mg Y.base (L2.CX Y.prog Y.w) j fa fd ps (spM M ps.length f)) (h4 : Binds Y.K fd ps []) (r : Vals vs us) (hlen : vs.length = ps.length) (s1r : SRel (openM M X own) φ1 ψ1 S1 H1) (r2 : RepL (openM M X own) φ1 ψ1 (shw C H1) ds' vs)
    (p1 : Post (rpD (openM M X own) ψ1) φ1 H1 (chkO (subM f S1 ds')) Q (WE W σ)) : wpAny (model Y.prog Y.w) Y.A (call (.ref fa) us) (EP Y pins σ Q) Y.xe s1 := by
    obtain ⟨eg, sg⟩ := s1r.grow (shw_keep aw)
    have back : ∀ {φ' : List Addr} {S2 : Sto} {H2 : Hp}, Ext φ1 (shw (C) H1) φ' H2 → SRel (openM M X own) φ' ψ1 S2 H2 → Shown (C) H2 → S2.all parO = true → Ext φ1 H1 φ' (hid (C) H2) ∧ SRel (openM M X own) φ' ψ1 S2 (hid (C) H2) := fun {φ' S2 H2} e2 s2 sh hp => by
      have kk := hid_part sh
      have inn : ∀ {b o}, H1 b = some o → C b = none := fun {b o} hb => by
        cases h : C b with
        | none => rfl
        | some ob => rw [aw b ob h] at hb; cases hb
      refine ⟨⟨?_, fun b o q hb ht => ?_, fun b o q hi => ?_, fun b hb => ?_⟩, s2.len, s2.nd, s2.dis, fun a ha => ?_, fun n a o z1 z2 => ?_, s2.ok.tabs _ _ s2.tabs kk, s2.ok⟩
      · obtain ⟨χ, rfl, hχ⟩ := e2.pre
        refine ⟨χ, rfl, fun a ha => ?_⟩
        have z := hχ a ha
        cases h : H1 a with
        | none => rfl
        | some o => rw [shw_keep aw a o h] at z; cases z
      · rw [hid_out (inn q)]
        exact e2.keep b o (shw_keep aw b o q) hb ht
      · rw [hid_out (inn q)]
        exact e2.imm b o (shw_keep aw b o q) hi
      · cases h : H1 b with
        | none => exact absurd h hb
        | some o =>
          rw [hid_out (inn h)]
          exact e2.dom b (by rw [shw_keep aw b o h]; simp)
      · obtain ⟨u, q1, q2, q3⟩ := s2.av a ha
        exact ⟨u, kk _ _ q1 q3, q2, q3⟩
      · have lw := List.all_eq_true.mp hp o (List.mem_of_getElem? z2)
        have ro := s2.obj n a o z1 z2
        cases o with
        | lst es =>
          obtain ⟨xs, g1, g2⟩ := ro
          exact ⟨xs, kk _ _ g1 rfl, RepL.par kk es xs lw g2⟩
    have sp : spM (openM M X own) ps.length (subM f) vs (shw (C) H1) (fun v H2 => Shown (C) H2 → Q v (hid (C) H2)) (fun cls d H2 => Shown (C) H2 → W cls d σ (hid (C) H2)) := by
      refine ⟨ds', S1, φ1, ψ1, by rw [r2.length]; exact hlen, r2, sg, ?_⟩
      unfold chkO at p1
      cases hf : subM f S1 ds' with
      | stuck => rw [hf] at p1; exact p1
      | ok d S2 =>
        rw [hf] at p1
        dsimp only at p1
        split at p1
        · rename_i hc
          simp only [Bool.and_eq_true] at hc
          rintro φ' H2 v e2 ⟨s2, r3⟩ sh
          obtain ⟨z1, z2⟩ := back e2 s2 sh hc.2
          exact p1 φ' _ v z1 ⟨z2, Rep.par (hid_part sh) d v hc.1 r3⟩
        · exact p1.elim
      | err d S2 =>
        rw [hf] at p1
        dsimp only at p1
        split at p1
        · rename_i hc
          simp only [Bool.and_eq_true] at hc
          rintro φ' H2 cls od e2 s2 r3 sh
          obtain ⟨z1, z2⟩ := back e2 s2 sh hc.2
          refine p1 φ' _ cls od z1 z2 ?_
          cases d <;> try exact r3.elim
          obtain ⟨q1, dd, y, q2, q3, q4⟩ := r3
          exact ⟨q1, dd, y, q2, hid_part sh _ _ q3 rfl, Rep.par (hid_part sh) _ _ (by simpa only [parD] using hc.1) q4⟩
        · exact p1.elim
    have sp2 := spM.sub (openM_agr M X own) ok sp
    have hl2 : (us ++ []).length = ps.length := by rw [List.append_nil, ← r.length]; exact hlen
    refine wpAny_call (codeAny_mono (h2.run Y.A Y.stack s1 (shw (C) H1) ⟨us, []⟩ us vs _ _ hr (env0_shw I1.env0 aw get nb nf) (by simpa using h4 s1 us I1.kIn hl2) r sp2) fun r s' hq => ?_)
    cases r with
    | error e => exact passAt tk σ pins H1 s1 e s' I1 (cx_shw aw get nf hq)
    | ok fl =>
      cases fl with
      | ret u => exact I1.after (ce_shw aw get nf hq)
      | next => exact False.elim hq
      | brk => exact False.elim hq
      | cont => exact False.elim hq
end
section
variable {X Y : Cx} {s s0 : Shared} {H H0 : Hp} {pins pins0 : List (Addr × Obj)} {σ σ0 : L2.St} {M : Mp} {cds own : Nat → Option Cd} {cap : Nat → Option (List Nat)} {φ ψ : List Addr} {env : En}
theorem close_repG (hM : ∀ k H f xs, cloP cds k H f xs → k < 1000 → M.clo k H f xs) (O : OwnOk X cds own cap) (ok : M.Ok) (aw : Away (celC X s) H)
    (hca : ∀ k cd js, own k = some cd → cap k = some js → CellsAt (cloFrom X.env.cells cd.scope.names []) cd.fr (js.map (slotAt σ)) s.heap H ∧ ∀ y a, (cloFrom X.env.cells cd.scope.names []).lookup y = some a → X.env.cells.lookup y = some a)
    (er : ERel (openM M X own) φ ψ H env σ) {e : Ext φ H φ (shw (celC X s) H)} : ∀ {d d' : D} {v : V}, closeD env cap d = some d' → Rep (openM M X own) φ ψ H d v → Rep (openM M X own) φ ψ (shw (celC X s) H) d' v := by
  intro d d' v hc r
  have ok' := openM_ok ok X own
  have keep : ∀ {d : D}, Rep (openM M X own) φ ψ H d v → Rep (openM M X own) φ ψ (shw (celC X s) H) d v := fun {d} r => Rep.mono ok' e d v r
  cases d <;> simp only [closeD, Option.some.injEq] at hc
  case clo k es =>
    split at hc
    · cases hc; exact keep r
    · rename_i hk
      split at hc
      · rename_i js hj
        obtain ⟨ds, hd, rfl⟩ := Option.map_eq_some_iff.mp hc
        simp only [Rep] at r ⊢
        obtain ⟨f, xs0, rfl, h1, h2⟩ := r
        unfold openM at h1
        dsimp only at h1
        rw [if_neg hk] at h1
        obtain ⟨h0, cd, c, g1, g2, g3⟩ := h1
        obtain ⟨k1, k2⟩ := O.cds _ cd g1
        obtain ⟨ca, sub⟩ := hca _ cd js g1 hj
        obtain ⟨xs, rx, ex⟩ := capsL_rep (er.mono ok' e) hd
        refine ⟨f, xs, rfl, ?_, rx⟩
        unfold openM
        dsimp only
        rw [if_pos k2]
        have kp := shw_keep aw
        refine hM _ _ _ _ ⟨cd, cloFrom X.env.cells cd.scope.names [], c, celC X s, k1, kp _ _ g2, kp _ _ g3, shown_shw, ?_, fun y a ha => ?_, ca.inj, fun i y x hy hx => ?_⟩ k2
        · have := ca.len
          rw [ex, List.length_map] at this
          exact this
        · obtain ⟨_, v, o, ho, hv⟩ := ca.all y a ha
          exact ⟨o, v, by rw [celC_at (sub y a ha)]; exact ho, hv⟩
        · obtain ⟨a, ha, hv⟩ := ca.has i y hy
          obtain ⟨u, ru, o, ho, hd⟩ := hv x (by rw [ex, List.getElem?_map, hx]; rfl)
          exact ⟨a, o, u, ha, by rw [celC_at (sub y a ha)]; exact ho, hd, ru⟩
      · cases hc
  all_goals (subst hc; exact keep r)
theorem slot_wipe {vs : List Nat} (h : wipe σ vs = wipe σ0 vs) {j : Nat} (hj : j ∉ vs) : slotAt σ j = slotAt σ0 j := by
  unfold NdefX.slotAt
  rw [← wipe_out (σ := σ) hj, h, wipe_out hj]
end
section
variable {X : Cx} {M : Mp} {x : Str} {p pos : Pos} {e : Expr} {es : List Expr} {ms : En → Sto → R (List D)} {k j : Nat} {st : Stmt} {ps : List Str} {f : DL.Fn} {cds own : Nat → Option Cd} {cap : Nat → Option (List Nat)} {pins0 : List (Addr × Obj)} {σ0 : L2.St} {H0 : Hp} {s0 : Shared} {scope : Scope} {ce : Env} {fp : List Addr} {vs0 : List Nat}
/-- f(e, ..) within the block -/
theorem pe_callOB (I0 : Inv X pins0 σ0 H0 s0) (hfp : ∀ b ∈ fp, FpOk X pins0 H0 b) (O : OwnOk X cds own cap) (hdis : ∀ k js, cap k = some js → ∀ j ∈ js, j ∉ vs0) (hM : ∀ k H f xs, cloP cds k H f xs → k < 1000 → M.clo k H f xs) (ok : M.Ok) (B : Bd (X.blk s0 H0 scope ce fp) W0 k) (F : FOk X.prog X.w M X.mg X.base j x st ps f) (ha : DA (X.blk s0 H0 scope ce fp) (openM M X own) W0 (e :: es) ms) (hj : j ≤ k := by first | decide | omega)
    (hg : Gl (X.blk s0 H0 scope ce fp) x := by rfl) (hK : X.K = M.K := by rfl) (hl : LenM ms ps.length := by repeat first | exact lenM_nil | apply lenM_cons)
    (hdb : (x == ("__debug__" : Str)) = false := by decide) (he : starEach (e :: es) (X.blk s0 H0 scope ce fp).env = (false, eval e (X.blk s0 H0 scope ce fp).env) :: starEach es (X.blk s0 H0 scope ce fp).env := by rfl) (hpl : (backTo pos (starEach es (X.blk s0 H0 scope ce fp).env)).any (·.1) = false := by rfl) :
    PE (X.blk s0 H0 scope ce fp) (.Call (.Name x p) (e :: es) [] pos) (fun σ H Q => wipe σ vs0 = wipe σ0 vs0 ∧ rdD (openM M X own) W0 (callO f cap ms) σ H Q) := by
  obtain ⟨fa, fd, h1, h2, h3, h4⟩ := F.ex
  refine ⟨fun pins s σ H Q I ⟨hw, h⟩ => ?_⟩
  obtain ⟨env, S, φ, ψ, er, sr, q⟩ := h
  unfold callO at q
  have hk := h1.kp
  rw [← hK] at h2 hk h4
  refine wpAny_Call_Name_kw (ld_glob I hg h3 ?_ hdb)
  refine PySem.W.callWith_K (h₀ := X.base) I.ok.mod.kin hk (thn (ha.run pos pins s σ H (fun vs H1 => ∃ φ1 ψ1 ds ds' S1, vs.length = ps.length ∧ RepL (openM M X own) φ1 ψ1 H1 ds vs ∧ SRel (openM M X own) φ1 ψ1 S1 H1 ∧ ERel (openM M X own) φ1 ψ1 H1 env σ ∧ mapO (closeD env cap) ds = some ds' ∧ Post (rpD (openM M X own) ψ1) φ1 H1 (chkO (subM f S1 ds')) Q (WE W0 σ)) I ⟨env, S, φ, ψ, er, sr, Post.cut (rp1 := rpA (openM M X own) ψ) q _ fun φ1 H1 a b S1 ea e1 ⟨s1, r1⟩ p1 => ?_⟩) fun us s1 ⟨vs, H1, I1, r, q⟩ => ⟨I1.kIn, ?_⟩) he hpl
  · split at p1
    · rename_i ds' hds
      exact ⟨φ1, ψ, a, ds', S1, by rw [← r1.length]; exact hl env S a S1 ea, r1, s1, er.mono s1.ok e1, hds, p1⟩
    · exact p1.elim
  · obtain ⟨φ1, ψ1, ds, ds', S1, hlen, r1, s1r, er1, hds, p1⟩ := q
    have cell : ∀ {y a}, X.env.cells.lookup y = some a → H1 a = none ∧ a ∉ fp := fun {y a} hy => by
      have hf : a ∉ fp := fun hm => (hfp a hm).2.2.2.2.1 y a hy rfl
      obtain ⟨v, o, ho, _⟩ := I0.cell y a hy
      exact ⟨I1.base.free a o ho (I0.freeC y a hy) hf, hf⟩
    have aw : Away (celC X s1) H1 := fun a ob h => by
      obtain ⟨_, y, hy⟩ := celC_get h
      exact (cell hy).1
    have newC : ∀ {y a}, X.env.cells.lookup y = some a → X.base.get? a = none ∧ a ∉ frs X.stack := fun {y a} hy => by
      have hs := I0.ok.cab y a (O.all y) hy
      refine ⟨Heap.get?_none_of_le (Nat.le_trans I0.ok.bsz hs), fun hm => ?_⟩
      rcases List.mem_cons.mp (I0.stkSub a hm) with e | e
      · exact I0.cne y a hy e
      · obtain ⟨_, o, ho, _⟩ := I0.ok.funs.mem e
        exact absurd (Nat.lt_of_lt_of_le (Heap.lt_size ho) hs) (Nat.lt_irrefl _)
    have hca : ∀ k cd js, own k = some cd → cap k = some js → CellsAt (cloFrom X.env.cells cd.scope.names []) cd.fr (js.map (slotAt σ)) s1.heap H1 ∧ ∀ y a, (cloFrom X.env.cells cd.scope.names []).lookup y = some a → X.env.cells.lookup y = some a := fun k cd js g1 hj => by
      have hsc := O.sc _ cd g1
      have cp := Caps.made (js := js) I0.ok (ndef_free hsc) (ndef_fr hsc) (O.cap _ cd js g1 hj)
      have c0 := cells_of I0 cp
      have es : js.map (slotAt σ0) = js.map (slotAt σ) := List.map_congr_left fun j hm => (slot_wipe hw (hdis k js hj j hm)).symm
      rw [es] at c0
      exact ⟨CellsAt.later (X := X.blk s0 H0 scope ce fp) c0 (fun y c hc => (newC (cp.sub y c hc)).2) (fun y c hc => (cell (cp.sub y c hc)).2) I1, cp.sub⟩
    obtain ⟨eg, _⟩ := s1r.grow (shw_keep aw)
    have r2 : RepL (openM M X own) φ1 ψ1 (shw (celC X s1) H1) ds' vs := mapO_rep (fun d d' v hc hr => close_repG (e := eg) hM O ok aw hca er1 hc hr) hds r1
    exact callO_core (Y := X.blk s0 H0 scope ce fp) ok I1 aw (fun a ob h => (celC_get h).1) (fun a ob h => (newC (celC_get h).2.choose_spec).1) (fun a ob h => (newC (celC_get h).2.choose_spec).2) B.tk (B.at_ hj) h2 h4 r hlen s1r r2 p1
end
end DL
end

section
set_option Elab.async false
set_option linter.all false
set_option maxRecDepth 100000
set_option maxHeartbeats 2000000
/-! DL, part 26: name = [f(x)[j] for x in xs], xs made functions of the frame. -/
namespace DL
open PySem PySem.Spec PyProof.Rows L2 LamX NdefX
section
variable {X : Cx} {M : Mp} {W : WX} {ma mb : En → Sto → R D}
theorem ix_read (hK : X.K = M.K) : ∃ r, IxR X r ∧ ∀ σ H Q, rdD M W (op2M idxG ma mb) σ H Q → tOp r (rdD M W ma) (rdD M W mb) σ H Q := by
  refine ⟨_, ix_seq, rd_op2 ?_⟩
  intro φ ψ S H d1 d2 x y Q Wc s r1 r2 p
  unfold idxG at p
  split at p
  · simp only [Rep] at r1 r2; subst r1 r2
    split at p
    · rename_i hz
      split at p
      · rename_i c e
        exact .inr (.inr ⟨_, _, c, rfl, rfl, hz, e, p.retD s (by simp only [Rep])⟩)
      · exact p.elim
    · exact p.elim
  · split at p
    · rename_i ds e
      split at p
      · rename_i d e2
        have r2' := r2
        simp only [Rep] at r2'
        obtain ⟨p1, xs, rfl, h1, h2⟩ := at_S s r1 e
        obtain ⟨v, e3, r3⟩ := atI_rep h2 e2
        rcases h1 with h1 | h1
        · exact .inl ⟨p1, xs, _, v, rfl, r2', by rw [hK]; exact h1, e3, p.retD s r3⟩
        · exact .inr (.inl ⟨p1, xs, _, v, rfl, r2', by rw [hK]; exact h1, e3, p.retD s r3⟩)
      · exact p.elim
    · exact p.elim
  · exact p.elim

end
section
variable {X : Cx} {M : Mp} {W : WX} {T : List NTab} {k j : Nat} {st : Stmt} {ps : List Str} {f : DL.Fn} {cds own : Nat → Option Cd} {cap : Nat → Option (List Nat)} {x y fx : Str} {py spos p1 p2 p3 p4 p5 p6 p7 : Pos} {iter : Expr} {scope : Scope} {n kk : Nat} {mi : En → Sto → R Wk} {fz : (En → Sto → R (List D)) → En → Sto → R D}
theorem ds_lcO (i v : Nat) (hz : ∀ {ml : En → Sto → R (List D)} {σ : L2.St} {H : Hp} {Q : VK}, rdD (openM M X own) W (fz ml) σ H Q → rdF (openM M X own) W ml σ H Q) (O : OwnOk X cds own cap) (hM : ∀ k H f xs, cloP cds k H f xs → k < 1000 → M.clo k H f xs) (ok : M.Ok) (B : Bd X W k) (F : FOk X.prog X.w M X.mg X.base j fx st ps f)
    (hi : DI X (openM M X own) W (.Name x p2) iter mi) (hdis : ∀ k js, cap k = some js → ∀ j ∈ js, j ∉ [v]) (hbl : blkC X.N X.env.scope scope [(x, v)] = true) (hj : j ≤ k := by first | decide | omega) (hps : ps.length = 1 := by rfl) (hK : X.K = M.K := by rfl)
    (hx : X.N[i]? = some y := by rfl) (hl : X.env.scope.names.lookup y = some .local := by rfl) (hxv : X.N[v]? = some x := by rfl)
    (hgx : ∀ (s : Shared) (H : Hp) (C : Addr) (cl : List (Str × Addr)) (fp : List Addr), Gl (X.blk s H scope (compEnvC scope cl C X.env) fp) fx := by intros; rfl) (hlx : ∀ (C : Addr) (cl : List (Str × Addr)), (compEnvC scope cl C X.env).scope.names.lookup x = some .local := by intros; rfl)
    (hdb : (fx == ("__debug__" : Str)) = false := by decide) (hdx : (x == ("__debug__" : Str)) = false := by decide) (hcx : (x == ("__classdict__" : Str)) = false := by decide)
    (hsw : swapsWith (.ListComp (.Subscript (.Call (.Name fx p3) [.Name x p4] [] p5) (.Constant (.int n) kk p6) p7) [⟨.Name x p2, iter, [], 0⟩] scope p1) (some (.Name y py)) spos.line X.env = pure true := by first | exact sw_true rfl rfl rfl rfl | rfl)
    (hs : ∀ x, foldedSetIterable iter X.env x = pure x := by intro _; rfl) :
    DS X (openM M X own) W (.Assign [.Name y py] (.ListComp (.Subscript (.Call (.Name fx p3) [.Name x p4] [] p5) (.Constant (.int n) kk p6) p7) [⟨.Name x p2, iter, [], 0⟩] scope p1) spos)
      (setM i (fz (lcM mi [v] [v] nameT tYesM (op2M idxG (callO f cap (consM (varM v) nilM)) (cM (.int n)))))) := by
  have he : ∀ (pins : List (Addr × Obj)) (σ : L2.St) (s : Shared) (H : Hp) (C : Addr) (cl : List (Str × Addr)) (fp : List Addr), Inv X pins σ H s → (∀ b ∈ fp, FpOk X pins H b) →
      PE (X.blk s H scope (compEnvC scope cl C X.env) fp) (.Subscript (.Call (.Name fx p3) [.Name x p4] [] p5) (.Constant (.int n) kk p6) p7) (fun σ2 H Q => wipe σ2 [v] = wipe σ [v] ∧ rdD (openM M X own) W0 (op2M idxG (callO f cap (consM (varM v) nilM)) (cM (.int n))) σ2 H Q) := fun pins σ s H C cl fp I hfp => by
    have Bb := B.blk s H scope (compEnvC scope cl C X.env) fp
    have hv : DE (X.blk s H scope (compEnvC scope cl C X.env) fp) (openM M X own) W0 (.Name x p4) (varM v) := de_var v hxv (.inl (hlx C cl)) hdx hcx
    have hc := pe_callOB (x := fx) (p := p3) (pos := p5) (es := []) (e := .Name x p4) I hfp O hdis hM ok Bb F (da_cons hv da_nil) hj (hgx s H C cl fp) hK (by rw [hps]; exact lenM_cons lenM_nil) hdb
    obtain ⟨r, hr, hrd⟩ := ix_read (X := X.blk s H scope (compEnvC scope cl C X.env) fp) (M := openM M X own) (W := W0) (ma := callO f cap (consM (varM v) nilM)) (mb := cM (.int n)) hK
    exact pe_imp (pe_ix hr hc (de_int (M := openM M X own) (W := W0)) (fun _ _ => rfl)) fun σ2 H Q ⟨c, h⟩ => ⟨c, hrd σ2 H Q h⟩
  refine ps_imp (ps_setLcO (own := [(x, v)]) B.calm B.nd hx hl hsw hi (blkOk_by hbl) (fun s H C cl fp => pg_name (X := X.blk s H scope (compEnvC scope cl C X.env) fp) B.nd hxv (.inl (hlx C cl)) (.inr (hlx C cl))) (fun s H C cl fp => dts_nil (M := openM M X own) (W := W0)) he hs) fun E σ H h => ?_
  exact tLc_keep (rd_lc (own := [(x, v)]) (tg_name v) (by simp) (hz (rd_stD h _ fun env φ1 ψ d v S1 H1 er sr r p => p.toNx sr (er.set r)))) fun {Q Q' H} ⟨env, S, φ, ψ, er, sr, p⟩ k => ⟨env, S, φ, ψ, er, sr, p.imp k⟩
end
end DL
end

section
set_option Elab.async false
set_option linter.all false
set_option maxRecDepth 100000
set_option maxHeartbeats 2000000
/-! DL, part 27: the end of a law whose def is run where no guard is set. -/
namespace LamX
open PySem PySem.Spec PyProof.Rows L2
/-- the law's call (follows HandS.EndTab's law_callTs), the law's def run where no guard is set -/
theorem law_callG {P : Program} {w : World} {K : PySem.W.Frag} {mg mb : Str → Option Value} {CX : CXT} {k : Nat} {fa a : Addr} {cs : List (Addr × Addr)} {fd : FuncData} {x : Str} {sp : Sp} {s₁ : Shared} {vs : List Value} {ns : List Int}
    (KX : K.In s₁.heap) (hns : s₁.heap.Ns mainGlobals mg) (hb : s₁.heap.Ns builtinsNs mb) (hbb : ∀ x : Str, x ≠ "__name__" → mb x = bootBuiltins x) (hlim : s₁.heap.NoLimit) (hg : s₁.gens = #[])
    (hT : ∀ p ∈ cs, s₁.heap.get? p.2 = some { cls := .none, data := .fields #[] }) (nT : ∀ p ∈ cs, K.lookup p.2 = none) (C : ∀ p ∈ cs, PySem.W.CodeHd s₁.heap p.1 p.2)
    (hbm : ∃ (bm : Addr) (ob : Obj), mg "__builtins__" = some (.ref bm) ∧ bm ≠ builtinsNs ∧ s₁.heap.get? bm = some ob ∧ ob.cls = .type "module" ∧ ob.dict = some builtinsNs ∧ ob.data = .plain)
    (ha : s₁.heap.get? a = some { cls := .type "list", data := .seq vs.toArray }) (hi : IntsAre vs ns) (hl : ns.length ≤ sizeLine) (hr : Room k callerA)
    (F : ∀ base : Heap, K.In base → base.Ns mainGlobals mg → (∀ p ∈ cs, TabB base mg p.1 p.2) → DL.FnG P w K mg base CX k fa fd [x] sp) (hbind : ∀ (s : Shared) (u : Value), BindsTo s fd ⟨[u], []⟩ [(x, u)])
    (hsp : ∀ H : Hp, (∀ p ∈ cs, H p.2 = some (.tbl #[])) → SqL K H a (ns.map V.int) → sp [.ref a] H (fun v _ => v = .bl true) fun _ _ _ => False)
    (hCX : ∀ H e s', CX [] H s₁ (fun _ _ _ => False) e s' → False) :
    codeAny (model P w) callerA (.call (.ref fa) ⟨[.ref a], []⟩) (fun r s' => r = .ok (.ret (.bool true)) ∧ OldK s₁.heap s'.heap ∧ s'.os = s₁.os ∧ AllBare s'.gens) s₁ := by
  have rv := vals_ints hi
  have lenV := hi.length
  have isT : ∀ b : Addr, b ∈ cs.map (·.2) → s₁.heap.get? b = some { cls := .none, data := .fields #[] } := fun b hb => by
    obtain ⟨p, hp, e⟩ := List.mem_map.mp hb
    rw [← e]
    exact hT p hp
  have aT : a ∉ cs.map (·.2) := fun z => by
    have q := isT a z
    rw [ha] at q
    have z' : Data.seq vs.toArray _ = Data.fields #[] := congrArg Obj.data (Option.some.inj q)
    cases z'
  have memT : ∀ p ∈ cs, p.2 ∈ cs.map (·.2) := fun p hp => List.mem_map.mpr ⟨p, hp, rfl⟩
  -- from an abstract heap in which nothing but the script and the tables may be tracked
  have core : ∀ H : Hp, (∀ p ∈ cs, H p.2 = some (.tbl #[])) → (∀ b, H b = none ∨ b ∈ cs.map (·.2) ∨ ∃ o xs, H b = some (.frz o (.lst xs))) → SqL K H a (ns.map V.int) → HOk P w H s₁.heap → (∀ b, H b ≠ none → b = a ∨ b ∈ cs.map (·.2)) → (H a ≠ none → K.lookup a = none) →
      codeAny (model P w) callerA (.call (.ref fa) ⟨[.ref a], []⟩) (fun r s' => r = .ok (.ret (.bool true)) ∧ OldK s₁.heap s'.heap ∧ s'.os = s₁.os ∧ AllBare s'.gens) s₁ := by
    intro H hH hO hS hok hA hK
    have base_of : ∀ {b : Addr} {o : Obj}, s₁.heap.get? b = some o → H b = none → (hidT s₁.heap H).get? b = some o := fun e n => hidT_get e n
    have noD : ∀ {b : Addr} {o : Obj}, s₁.heap.get? b = some o → (∀ vs n, o.data ≠ .seq vs n) → o.data ≠ .fields #[] → H b = none := fun {b o} e h1 h2 => by
      cases q : H b with
      | none => rfl
      | some u =>
        rcases hA b (by rw [q]; simp) with e' | e'
        · rw [e', ha] at e
          cases e
          exact (h1 _ _ rfl).elim
        · rw [isT b e'] at e
          cases e
          exact (h2 rfl).elim
    have noA : ∀ {b : Addr} {o : Obj} {es : Array DictEntry} {ep : Nat}, s₁.heap.get? b = some o → o.data = .dict es ep → H b = none := fun {b o es ep} e d => by
      refine noD e (fun vs n z => ?_) fun z => ?_
      · rw [d] at z
        cases z
      · rw [d] at z
        cases z
    have nsK : ∀ {b : Addr} {m : Str → Option Value}, s₁.heap.Ns b m → (hidT s₁.heap H).Ns b m := fun {b m} ⟨o, es, ep, e, d, r⟩ => ⟨o, es, ep, base_of e (noA e d), d, r⟩
    have hKb : K.In (hidT s₁.heap H) := fun b o e => base_of (KX b o e) (by
      cases q : H b with
      | none => rfl
      | some u =>
        rcases hA b (by rw [q]; simp) with e' | e'
        · rw [e'] at e q
          rw [hK (by rw [q]; simp)] at e
          cases e
        · obtain ⟨p, hp, ep⟩ := List.mem_map.mp e'
          rw [← ep, nT p hp] at e
          cases e)
    have hM : L2.Mod K mg (hidT s₁.heap H) := ⟨hKb, nsK hns, ⟨mb, nsK hb, hbb⟩, let ⟨mc, h1, h2⟩ := hlim; ⟨mc, nsK h1, h2⟩⟩
    have TB : ∀ p ∈ cs, TabB (hidT s₁.heap H) mg p.1 p.2 := fun p hp => by
      have hTp := hT p hp
      refine ⟨?_, ?_, fun z => ?_⟩
      · obtain ⟨o, us, file, tf, flags, tg, inF, text, tt, e1, r1, r2, r3, r4, r5, r6, r7, r8, hne⟩ := C p hp
        refine ⟨o, us, file, tf, flags, tg, inF, text, tt, base_of e1 (noD e1 (fun vs n z => ?_) fun z => ?_), r1, r2, r3, r4, r5, r6, r7, r8, hne⟩
        · rw [r2] at z
          cases z
        · rw [r2] at z
          cases z
          simp at r3
      · obtain ⟨bm, ob, b1, b2, b3, b4, b5, b6⟩ := hbm
        have nG : bm ≠ mainGlobals := fun q => by
          obtain ⟨o, es, ep, e, hd, _⟩ := hns
          rw [q, e] at b3
          cases b3
          rw [hd] at b6
          cases b6
        have nP : bm ≠ p.2 := fun q => by
          rw [q, hTp] at b3
          cases b3
          cases b6
        refine ⟨bm, ob, b1, b2, nG, nP, base_of b3 (noD b3 (fun vs n z => ?_) fun z => ?_), b4, b5, b6⟩
        · rw [b6] at z
          cases z
        · rw [b6] at z
          cases z
      · obtain ⟨o, es, ep, e, hd, _⟩ := hns
        rw [z, hTp] at e
        cases e
        cases hd
    have e0 : Env0 P w K mg (hidT s₁.heap H) callerA [] s₁ H := ⟨rfl, hM, fun b o e => of_hidT e, Nat.le_of_eq (hidT_size _ _), trivial, fun b hb => absurd (show b ∈ ([] : List Addr) from hb) (by simp), hok, .of_eq hg⟩
    refine codeAny_mono ((F _ hKb (nsK hns) TB).run callerA [] s₁ H ⟨[.ref a], []⟩ [.ref a] [.ref a] _ _ hr rfl e0 (hbind s₁ (.ref a)) (.cons rfl .nil) (hsp H hH hS)) fun r s' h => ?_
    cases r with
    | error e => exact (hCX H e s' h).elim
    | ok fl =>
      cases fl with
      | next => exact False.elim h
      | brk => exact False.elim h
      | cont => exact False.elim h
      | ret u =>
        obtain ⟨v, H', os, bare, un, hok', r', q⟩ := h
        have q' : v = .bl true := q
        subst q'
        obtain rfl : u = Value.bool true := r'
        have key : ∀ b o, b ∉ cs.map (·.2) → s₁.heap.get? b = some o → s'.heap.get? b = some o := fun b o nb e => by
          cases q : H b with
          | none => exact un.keep b o e q (by intro z; exact absurd (show b ∈ ([] : List Addr) from z) (by simp)) (by simp)
          | some u =>
            rcases hO b with z | z | ⟨ob, xs, z⟩
            · rw [q] at z; cases z
            · exact absurd z nb
            · have z2 := un.frzs b ob _ z
              obtain ⟨e1, _⟩ := hok b _ z
              obtain ⟨e2, _⟩ := hok' b _ z2
              rw [e] at e1; cases e1
              exact e2
        have grown : ∀ p ∈ cs, ∃ more : Array Value, s'.heap.get? p.2 = some { cls := .none, data := .fields more } := fun p hp => by
          obtain ⟨more, z⟩ := un.tbls p.2 #[] (hH p hp)
          exact ⟨_, hok' p.2 _ z⟩
        refine ⟨rfl, ⟨fun b o e => ?_, fun b o e => ?_⟩, os, bare⟩
        · by_cases hb : b ∈ cs.map (·.2)
          · obtain ⟨p, hp, ep⟩ := List.mem_map.mp hb
            obtain ⟨more, hm⟩ := grown p hp
            rw [← ep] at e ⊢
            rw [hT p hp] at e
            cases e
            exact .inr (.inl ⟨((C p hp).tab (hT p hp)).isCodeTable, rfl, #[], more, rfl, by rw [Array.empty_append]; exact hm⟩)
          · exact .inl (key b o hb e)
        · by_cases hb : b ∈ cs.map (·.2)
          · obtain ⟨p, hp, ep⟩ := List.mem_map.mp hb
            obtain ⟨more, hm⟩ := grown p hp
            rw [← ep]
            exact ⟨_, hm⟩
          · exact ⟨o, key b o hb e⟩
  cases hk : K.lookup a with
  | some o =>
    have e := KX a o hk
    rw [ha] at e
    cases e
    refine core (fun b => if b ∈ cs.map (·.2) then some (.tbl #[]) else none) (fun p hp => if_pos (memT p hp)) (fun b => ?_) (.inr ⟨_, vs.toArray, _, hk, rfl, rfl, rfl, by rw [List.size_toArray, lenV]; exact hl, by simpa using rv⟩) (fun b u z => ?_) (fun b z => ?_) fun z => absurd (show (if a ∈ cs.map (·.2) then some (HO.tbl #[]) else none) = none from if_neg aT) z
    · by_cases hb : b ∈ cs.map (·.2)
      · exact .inr (.inl hb)
      · exact .inl (if_neg hb)
    · by_cases hb : b ∈ cs.map (·.2)
      · have z' := (if_pos hb).symm.trans z
        cases z'
        exact isT b hb
      · have z' := (if_neg hb).symm.trans z
        cases z'
    · by_cases hb : b ∈ cs.map (·.2)
      · exact .inr hb
      · exact absurd (if_neg hb) z
  | none =>
    refine core (fun b => if b = a then some (.frz { cls := .type "list", data := .seq vs.toArray } (.lst (ns.map V.int))) else if b ∈ cs.map (·.2) then some (.tbl #[]) else none) (fun p hp => (if_neg (show ¬ p.2 = a from fun z => aT (by rw [← z]; exact memT p hp))).trans (if_pos (memT p hp))) (fun b => ?_)
      (.inl (.inr ⟨{ cls := .type "list", data := .seq vs.toArray }, if_pos rfl⟩)) (fun b u z => ?_) (fun b z => ?_) fun _ => hk
    · by_cases hb : b = a
      · exact .inr (.inr ⟨_, _, if_pos hb⟩)
      · by_cases hb2 : b ∈ cs.map (·.2)
        · exact .inr (.inl hb2)
        · exact .inl ((if_neg hb).trans (if_neg hb2))
    · by_cases hb : b = a
      · have z' := (if_pos hb).symm.trans z
        cases z'
        rw [hb]
        exact ⟨ha, by rw [List.length_map]; exact hl, vs, _, rv, ha⟩
      · have z1 := (if_neg hb).symm.trans z
        by_cases hb2 : b ∈ cs.map (·.2)
        · have z' := (if_pos hb2).symm.trans z1
          cases z'
          exact isT b hb2
        · have z' := (if_neg hb2).symm.trans z1
          cases z'
    · by_cases hb : b = a
      · exact .inl hb
      · by_cases hb2 : b ∈ cs.map (·.2)
        · exact .inr hb2
        · exact absurd ((if_neg hb).trans (if_neg hb2)) z
def LawAtG (l : PySem.W.OpenLaw) (w : World) (K : PySem.W.Frag) (CX : CXT) (k n : Nat) (x : Str) (mg : Str → Option Value) (fa : Addr) (h : Heap) : Prop :=
  ∃ (fd : FuncData) (cs : List (Addr × Addr)) (sp : Sp), (∀ p ∈ cs, h.get? p.2 = some { cls := .none, data := .fields #[] }) ∧ (∀ p ∈ cs, K.lookup p.2 = none) ∧ (∀ p ∈ cs, PySem.W.CodeHd h p.1 p.2) ∧ (∀ (s : Shared) (u : Value), BindsTo s fd ⟨[u], []⟩ [(x, u)]) ∧
    (∀ (H : Hp) (a : Addr) (ns : List Int), ns.length ≤ n → (∀ z ∈ ns, Builtin.Int.intBits z ≤ 1048576) → (∀ p ∈ cs, H p.2 = some (.tbl #[])) → SqL K H a (ns.map V.int) → sp [.ref a] H (fun v _ => v = .bl true) fun _ _ _ => False) ∧
    ∀ base : Heap, K.In base → base.Ns mainGlobals mg → (∀ p ∈ cs, TabB base mg p.1 p.2) → DL.FnG l.prog w K mg base CX k fa fd [x] sp
theorem walk_ofG {l : PySem.W.OpenLaw} {n k : Nat} {q : Program} {loose : List Str} {XP : (Str → Option Value) → Heap → Prop} {YP : World → Heap → Prop} {d : DefRec} {CX : World → CXT} {x : Str}
    (hn : l.most = some n) (hn2 : n ≤ sizeLine) (hdf : d.params.defaults = []) (hr : Room k callerA)
    (F : ∀ (w : World) (mg : Str → Option Value) (fa : Addr) (h : Heap), YP w h → h.Ns mainGlobals mg → mg d.name = some (.ref fa) → ∃ K : PySem.W.Frag, K.In h ∧ LawAtG l w K (CX w) k n x mg fa h)
    (hCX : ∀ (w : World) (H : Hp) (s : Shared) (e : Value) (s' : Shared), CX w [] H s (fun _ _ _ => False) e s' → False) :
    PySem.W.WalkO q loose XP YP l.row.toRowW d [] (fun f vs => PySem.call f vs) := by
  refine Att.attach_callB hn hdf fun w s₀ s₁ mg mb fa o pm cd doc a vs ns G Y ho hd hcd hmg hobj hints hlen hbits hg => ?_
  obtain ⟨K, KX, fd, cs, sp, hT, nT, C, hb, hsp, hF⟩ := F w mg fa _ Y G.T.g hmg
  exact law_callG KX G.T.g G.T.b G.T.builtins G.T.nolimit hg hT nT C G.T.bmain hobj hints (Nat.le_trans hlen hn2) hr hF hb (fun H hH hS => hsp H a ns hlen hbits hH hS) fun H e s' => hCX w H s₁ e s'
end LamX
end

section
set_option Elab.async false
set_option linter.all false
set_option maxRecDepth 100000
set_option maxHeartbeats 2000000
/-! DL, part 28: the law's promise from the plain law. -/
namespace DL
open PySem PySem.Spec PyProof.Rows L2 LamX NdefX
theorem lawInts {M : Mp} {φ ψ : List Addr} {H : Hp} : ∀ ns : List Int, RepL M φ ψ H (ns.map D.int) (ns.map V.int)
  | [] => .nil
  | n :: ns => .cons (by simp only [Rep]) (lawInts ns)
/-- what the plain law tells: the script as a list, as a locked or written one -/
def Plain (f : DL.Fn) (ns : List Int) : Prop := (∃ S, f [] [.lst (ns.map D.int)] = .ok (.bl true) S) ∧ ∃ S, f [] [.scr (ns.map D.int)] = .ok (.bl true) S
theorem law_sp {M : Mp} {T : List NTab} {f : DL.Fn} {ns : List Int} {H : Hp} {a : Addr} (ok : M.Ok) (ht : M.tabs = TabsN T) (h : Plain f ns) (hT : ∀ p ∈ T, H p.1 = some (.tbl #[])) (hS : SqL M.K H a (ns.map V.int)) : spM M 1 f [.ref a] H (fun v _ => v = .bl true) fun _ _ _ => False := by
  have s : SRel M [] [] [] H := ⟨rfl, by simp, fun _ h => absurd h (by simp), fun _ h => absurd h (by simp), fun n b o h _ => absurd h (by simp), by
    rw [ht]
    exact fun p hp => TabN.nil (hT p hp), ok⟩
  have fin : ∀ {d : D}, Rep M [] [] H d (.ref a) → (∃ S, f [] [d] = .ok (.bl true) S) → spM M 1 f [.ref a] H (fun v _ => v = .bl true) fun _ _ _ => False := fun {d} r ⟨S, e⟩ => by
    refine ⟨[d], [], [], [], rfl, .cons r .nil, s, ?_⟩
    rw [e]
    rintro φ' H' v _ ⟨_, rv⟩
    simpa only [Rep] using rv
  rcases hS with (r | r) | r
  · exact fin (by simp only [Rep]; exact ⟨a, _, rfl, by simp, by simp, r, lawInts ns⟩) h.1
  · exact fin (by simp only [Rep]; exact ⟨a, _, rfl, .inl r, lawInts ns⟩) h.2
  · exact fin (by simp only [Rep]; exact ⟨a, _, rfl, .inr r, lawInts ns⟩) h.2
end DL
end

section
set_option Elab.async false
set_option linter.all false
set_option maxRecDepth 100000
set_option maxHeartbeats 2000000
/-! DL, part 29: what the head is asked about own exception classes. -/
namespace DL
open PySem PySem.Spec PyProof.Rows L2 LamX NdefX He
open PySem.W (Frag ksFn)
/-- the class object, as a Bool -/
def oexClsB (K : Frag) (C : Addr) : Bool := match K.lookup C with
  | some ⟨.type "type", _, .cls cd, sl⟩ => (match cd.mro, sl.toList with
    | .ref C' :: bm, [_, _, _, _, some (.builtin n), _] => C' == C && n == "ValueError.__new__" && !cd.hasDel && cd.hasDict && PySem.HandSPX.refsVE bm
    | _, _ => false)
  | _ => false
theorem oexClsB_ok {K : Frag} {C : Addr} (q : oexClsB K C = true) : ∃ nm q N bs bm sn sub ab col dd k0 k1 k2 k3 k5, K.lookup C = some (excClassObj nm q C N bs bm true sn sub ab col dd k0 k1 k2 k3 k5 "ValueError.__new__") ∧ PySem.HandSPX.refsVE bm = true := by
  unfold oexClsB at q
  split at q
  · rename_i dd cd sl ho
    split at q
    · rename_i C' bm k0 k1 k2 k3 n k5 hm hs
      simp only [Bool.and_eq_true, beq_iff_eq, Bool.not_eq_true'] at q
      obtain ⟨⟨⟨⟨rfl, rfl⟩, hdel⟩, hdi⟩, ht⟩ := q
      obtain ⟨nm, bs, mro, ns, qn, hd, sn, sub, ab, col, del⟩ := cd
      dsimp only at hm hdel hdi
      subst hm hdel hdi
      have hsl : sl = #[k0, k1, k2, k3, some (.builtin "ValueError.__new__"), k5] := by
        obtain ⟨l⟩ := sl
        simp only at hs
        rw [hs]
      subst hsl
      exact ⟨nm, qn, ns, bs, bm, sn, sub, ab, col, dd, k0, k1, k2, k3, k5, ho, ht⟩
    · cases q
  · cases q
def oexB (K : Frag) (C : Addr) : Bool := oexClsB K C && (decide (PySem.W.findIn K (.ref C) "__setattr__" = some (some (.builtin "object.__setattr__"))) && (decide (PySem.W.subIn K (.ref C) (.type "BaseException") = some true) && (decide (PySem.W.typeIn K (.ref C) = some (.type "type")) && PySem.W.keepIn K (.ref C))))
theorem oexB_ok {K : Frag} {C : Addr} (h : oexB K C = true) : OexC K C := by
  obtain ⟨h1, h⟩ := Bool.and_eq_true_iff.mp h
  obtain ⟨h2, h⟩ := Bool.and_eq_true_iff.mp h
  obtain ⟨h3, h⟩ := Bool.and_eq_true_iff.mp h
  obtain ⟨h4, h5⟩ := Bool.and_eq_true_iff.mp h
  exact ⟨oexClsB_ok h1, of_decide_eq_true h2, of_decide_eq_true h3, of_decide_eq_true h4, h5⟩
def iniCB (K : Frag) (D C : Addr) : Bool := oexB K C && (decide (PySem.W.mroIn K C (.ref D) = some true) && (decide (PySem.W.ks_superIn K C D "__init__" = some (some (.builtin "ValueError.__init__"))) && (decide (PySem.W.subIn K (.ref C) (.type "ValueError") = some true) && (PySem.W.excInitIn K C [.type "ValueError", .type "Exception", .type "BaseException", .type "object"] "ValueError.__new__" && decide (PySem.W.findIn K (.ref C) "value" = some none)))))
theorem iniCB_ok {K : Frag} {D C : Addr} (h : iniCB K D C = true) : IniC K D C := by
  obtain ⟨h1, h⟩ := Bool.and_eq_true_iff.mp h
  obtain ⟨h2, h⟩ := Bool.and_eq_true_iff.mp h
  obtain ⟨h3, h⟩ := Bool.and_eq_true_iff.mp h
  obtain ⟨h4, h⟩ := Bool.and_eq_true_iff.mp h
  obtain ⟨h5, h6⟩ := Bool.and_eq_true_iff.mp h
  exact ⟨oexB_ok h1, of_decide_eq_true h2, of_decide_eq_true h3, of_decide_eq_true h4, h5, of_decide_eq_true h6⟩
def excB (K : Frag) (D : Addr) : Bool := decide (PySem.W.findIn K (.ref D) "__getattribute__" = some (some (.builtin "BaseException.__getattribute__"))) && (decide (PySem.W.findIn K (.ref D) "__getattr__" = some none) && (decide (PySem.W.subIn K (.ref D) (.type "BaseException") = some true) && (PySem.W.hasDictIn K D && (decide (PySem.W.findIn K (.ref D) "__class__" = some (some (.builtin "object.__class__"))) &&
  (decide (PySem.W.specialIn K (.builtin "object.__class__") "__get__" = some (some (.builtin "getset_descriptor.__get__"))) && (decide (PySem.W.takesIn K (.builtin "object.__class__") = some true) && decide (PySem.W.mroIn K D (.type "object") = some true)))))))
theorem excB_ok {K : Frag} {D : Addr} (h : excB K D = true) : ExcC K D := by
  obtain ⟨h1, h⟩ := Bool.and_eq_true_iff.mp h
  obtain ⟨h2, h⟩ := Bool.and_eq_true_iff.mp h
  obtain ⟨h3, h⟩ := Bool.and_eq_true_iff.mp h
  obtain ⟨h4, h⟩ := Bool.and_eq_true_iff.mp h
  obtain ⟨h5, h⟩ := Bool.and_eq_true_iff.mp h
  obtain ⟨h6, h⟩ := Bool.and_eq_true_iff.mp h
  obtain ⟨h7, h8⟩ := Bool.and_eq_true_iff.mp h
  exact ⟨of_decide_eq_true h1, of_decide_eq_true h2, of_decide_eq_true h3, h4, of_decide_eq_true h5, of_decide_eq_true h6, of_decide_eq_true h7, of_decide_eq_true h8⟩
def askB (K : Frag) (C : Addr) : Bool := xfB K C && (decide (PySem.W.findIn K (.ref C) "value" = some none) && excB K C)
theorem askB_ok {K : Frag} {C : Addr} (h : askB K C = true) : AskC K C := by
  obtain ⟨h1, h⟩ := Bool.and_eq_true_iff.mp h
  obtain ⟨h2, h3⟩ := Bool.and_eq_true_iff.mp h
  exact ⟨xfB_ok h1, of_decide_eq_true h2, excB_ok h3⟩
/-! ### the __init__ of the class x -/
abbrev IniW : Type := Option (Arguments × FuncBody × Scope)
def iniW (K : Frag) (fI : Addr) : IniW := match K.lookup fI with
  | some ⟨_, _, .func fd, _⟩ => some (fd.params, fd.body, fd.scope)
  | _ => none
/-- all but the words -/
def iniFB (K : Frag) (file : Str) (D fI : Addr) : Bool := (match K.lookup fI with
  | some ⟨_, _, .func fd, _⟩ => decide (fd.name = "__init__") && decide (fd.globals = mainGlobals) && decide (fd.builtins = builtinsNs) && (match fd.code, fd.closure with
    | .ref cda, [(y, cc)] => decide (y = "__class__") && PySem.W.codeIn K (.ref cda) fd.qualname && (match K.lookup cda with
      | some ⟨_, _, .fields vs, _⟩ => (match vs[2]? with
        | some (Value.str fl _) => fl == file
        | _ => false)
      | _ => false) && (match K.lookup cc with
      | some ⟨_, _, .cell (some (.ref D')), _⟩ => D' == D
      | _ => false)
    | _, _ => false) && decide (fd.defaults = .none) && decide (fd.kwdefaults = .none)
  | _ => false) && (PySem.W.clsIn K D).isSome && decide (PySem.W.nsIn K mainGlobals "super" = some none) && decide (PySem.W.nsIn K cStatics "thirdparty.any" = some none)
/-- the words -/
structure IniWords (prog : Program) (params : Arguments) (body : List Stmt) (scope : Scope) : Prop where
  bod : ∃ (p0 p1 p2 p3 p4 p5 p6 p7 p8 p9 : Pos), body = [.Expr (.Call (.Attribute (.Call (.Name "super" p0) [] [] p1) "__init__" p2) [.Name "value" p3] [] p4) p5, .Assign [.Attribute (.Name "self" p6) "value" p7] (.Name "value" p8) p9] ∧ (p2.endLine == p4.line) = true
  self : ∃ ar, (params.posonlyargs ++ params.args).head? = some ar ∧ ar.arg = "self"
  kind : scope.kind = .function
  co : scope.isCoroutine = false
  gen : scope.isGenerator = false
  cell : ∀ x ∈ scope.names, x.2 ≠ .cell
  n1 : scope.names.lookup ("self" : Str) = some .local
  n2 : scope.names.lookup ("value" : Str) = some .local
  n3 : scope.names.lookup ("super" : Str) = some .globalImplicit
  n4 : scope.names.lookup ("__class__" : Str) = some .free
  top : (prog.main.scope.names.lookup ("super" : Str)).isSome = false
  bind : ∀ (qual : Str) (doc pm cdv ct : Value) (an : Option Addr) (cc : Addr) (us : List Value), us.length = 2 → bindArgs (ksFn "__init__" qual params body scope .none .none doc pm an cdv ct cc) ⟨us, []⟩ = pure ((["self", "value"] : List Str).zip us)
theorem iniF_of {K : Frag} {prog : Program} {D fI : Addr} {params : Arguments} {body : List Stmt} {scope : Scope} (W : IniWords prog params body scope) (hw : iniW K fI = some (params, .stmts body, scope)) (hb : iniFB K prog.main.file D fI = true) : ∃ fd, IniF K prog D fI fd := by
  unfold iniFB at hb
  obtain ⟨hb, hop⟩ := Bool.and_eq_true_iff.mp hb
  obtain ⟨hb, hsup⟩ := Bool.and_eq_true_iff.mp hb
  obtain ⟨hb, hcls⟩ := Bool.and_eq_true_iff.mp hb
  obtain ⟨cdD, hcls⟩ := Option.isSome_iff_exists.mp hcls
  unfold iniW at hw
  split at hb
  · rename_i oc od fd osl ho
    rw [ho] at hw
    dsimp only at hw
    obtain ⟨nm, qn, pr, bd, sc, gl, cl, df, kd, doc, pm, an, code, ct, bn⟩ := fd
    simp only [Option.some.injEq, Prod.mk.injEq] at hw
    obtain ⟨rfl, rfl, rfl⟩ := hw
    simp only [Bool.and_eq_true, decide_eq_true_eq] at hb
    obtain ⟨⟨⟨⟨⟨e1, e2⟩, e3⟩, hb⟩, e4⟩, e5⟩ := hb
    subst e1 e2 e3 e4 e5
    split at hb
    · rename_i cda y cc
      simp only [Bool.and_eq_true, decide_eq_true_eq] at hb
      obtain ⟨⟨⟨e6, h1⟩, h2⟩, h3⟩ := hb
      subst e6
      split at h2
      · rename_i ccl cdd vs ccs hcda
        split at h2
        · rename_i fl tf hfl
          split at h3
          · rename_i cl' cld D' csl hcc
            have eD : D' = D := beq_iff_eq.mp h3
            subst eD
            have ef : fl = prog.main.file := beq_iff_eq.mp h2
            obtain ⟨p0, p1, p2, p3, p4, p5, p6, p7, p8, p9, eb, hp⟩ := W.bod
            obtain ⟨ar, ha, hs⟩ := W.self
            refine ⟨_, ⟨⟨oc, od, osl, qn, pr, body, sc, .none, .none, doc, pm, ct, an, cda, cc, p0, p1, p2, p3, p4, p5, p6, p7, p8, p9, ar, ccl, cl', cdd, cld, vs, ccs, csl, fl, tf, cdD, rfl, ho, h1, eb, hp, ha, hs, W.kind, W.co, W.gen, W.cell, W.n1, W.n2, W.n3, W.n4, hcda, hfl, by rw [ef]; exact beq_self_eq_true _, hcc, hcls⟩, of_decide_eq_true hsup, of_decide_eq_true hop, W.top, fun us hl => W.bind _ _ _ _ _ _ _ us hl⟩⟩
          · cases h3
        · cases h2
      · cases h2
    · cases hb
  · cases hb
end DL
end

section
set_option Elab.async false
set_option linter.all false
set_option maxRecDepth 100000
set_option maxHeartbeats 2000000
/-! DL, part 30: the head's Hook, its facts. -/
namespace DL
open PySem PySem.Spec PyProof.Rows L2 LamX NdefX He
open PySem.W (Frag ksFn)
/-! ### written dicts -/
def valB : Value → D → Bool
  | .int i _, .int j => i == j
  | .str x _, .str y => x == y
  | .none, .non => true
  | .bool b, .bl c => b == c
  | _, _ => false
theorem valB_ok {u : Value} {d : D} (h : valB u d = true) : ∃ v, RelV v u ∧ ∀ (M : Mp) (φ ψ : List Addr) (H : Hp), Rep M φ ψ H d v := by
  unfold valB at h
  split at h
  · exact ⟨.int _, ⟨_, rfl⟩, fun _ _ _ _ => by simp only [Rep]; rw [beq_iff_eq.mp h]⟩
  · exact ⟨.str _, ⟨_, rfl⟩, fun _ _ _ _ => by simp only [Rep]; rw [beq_iff_eq.mp h]⟩
  · exact ⟨.non, rfl, fun _ _ _ _ => by simp only [Rep]⟩
  · exact ⟨.bl _, rfl, fun _ _ _ _ => by simp only [Rep]; rw [beq_iff_eq.mp h]⟩
  · cases h
def tabB : List DictEntry → List (Str × D) → Bool
  | [], [] => true
  | e :: l, q :: tab => (match e.key with
    | Value.str x _ => x == q.1
    | _ => false) && (valB e.val q.2 && tabB l tab)
  | _, _ => false
theorem tabB_ok : ∀ {l : List DictEntry} {tab : List (Str × D)}, tabB l tab = true → TabLit l tab
  | [], [], _ => trivial
  | [], _ :: _, h => by cases h
  | _ :: _, [], h => by cases h
  | e :: l, q :: tab, h => by
    unfold tabB at h
    obtain ⟨h1, h⟩ := Bool.and_eq_true_iff.mp h
    obtain ⟨h2, h3⟩ := Bool.and_eq_true_iff.mp h
    refine ⟨?_, valB_ok h2, tabB_ok h3⟩
    split at h1
    · rename_i x t hk
      exact ⟨t, by rw [hk, beq_iff_eq.mp h1]⟩
    · cases h1
def kdB (K : Frag) (d : Addr) (tab : List (Str × D)) : Bool := match K.lookup d with
  | some ⟨_, _, .dict es _, _⟩ => tabB es.toList tab
  | _ => false
theorem kdB_ok {K : Frag} {w : World} {d : Addr} {tab : List (Str × D)} (h : ∃ es n, KDict K w d es n) (hb : kdB K d tab = true) : KDt K w d tab := by
  obtain ⟨es, n, hd⟩ := h
  unfold kdB at hb
  rw [hd.at_] at hb
  exact ⟨es, n, hd, tabB_ok hb⟩
/-! ### the Hook: HandS's with one more observation -/
def ini0 (cls : Str) (K : Frag) : IniW := iniW K (ma K (ga K cls) "__init__")
abbrev AlI : Type := AlX × IniW
def asI (g : Addr → Option Obj) (n : Nat) : List Addr := asD g n ++ [cStatics]
def obsI (n : Nat) (fa : List Fa) (fn : List DefD) (ts : List Tab) (tf : List Defn) (ex : Frag → Bool) (cls : Str) (g : Addr → Option Obj) : AlI :=
  ((obsT fa fn ts (frT g (asI g n)), ex (frT g (asI g n)) && tabsB g tf (frT g (asI g n))), ini0 cls (frT g (asI g n)))
theorem saysI_of {as : List Addr} {fa : List Fa} {fn : List DefD} {ts : List Tab} {tf : List Defn} {ex : Frag → Bool} {w : World} {h : Heap} (e : (obsT fa fn ts (frT h.get? as), ex (frT h.get? as) && tabsB h.get? tf (frT h.get? as)) = valX fn ts w) : SaysX fa fn ts tf ex w h (frT h.get? as) := by
  obtain ⟨h1, h2⟩ := Bool.and_eq_true_iff.mp (show (ex (frT h.get? as) && tabsB h.get? tf (frT h.get? as)) = true from congrArg (fun z : AlX => z.2) e)
  have key : ∀ p ∈ tf, PySem.W.codeHdIn (frT h.get? as) (cT (frT h.get? as) p).1 (cT (frT h.get? as) p).2 = true ∧ ∃ o, h.get? (cT (frT h.get? as) p).2 = some o ∧ emptyTab o = true := fun p hp => by
    obtain ⟨h3, h4⟩ := Bool.and_eq_true_iff.mp (List.all_eq_true.mp h2 p hp)
    refine ⟨h3, ?_⟩
    split at h4
    · rename_i o q
      exact ⟨o, q, h4⟩
    · cases h4
  refine ⟨congrArg (fun z : AlX => z.1) e, h1, fun p hp => (key p hp).1, fun p hp => ?_, fun p hp => ?_⟩
  · obtain ⟨_, o, q, z⟩ := key p hp
    exact frT_none q z
  · obtain ⟨_, o, q, z⟩ := key p hp
    rw [q, emptyTab_eq z]
def hookI (n : Nat) (fa : List Fa) (fn : List DefD) (ts : List Tab) (tf : List Defn) (ex : Frag → Bool) (cls : Str) (iw : IniW) : PySem.W.Hook where
  α := AlI
  obs := fun s => obsI n fa fn ts tf ex cls s.heap.get?
  val := fun w => (valX fn ts w, iw)
  says := fun w h => ∃ K : Frag, K.In h ∧ SaysX fa fn ts tf ex w h K ∧ ini0 cls K = iw
  of := fun w s e => ⟨_, frT_in, saysI_of (congrArg Prod.fst e), congrArg Prod.snd e⟩
  keeps := fun _ _ _ ⟨K, hK, c, e⟩ k => ⟨K, PySem.W.Frag.In.keeps hK k, ⟨c.t, c.more, c.hd, c.out, fun p hp => k _ _ (c.empty p hp)⟩, e⟩
theorem obsI_eq {n : Nat} {fa : List Fa} {fn : List DefD} {ts : List Tab} {tf : List Defn} {ex : Frag → Bool} {cls : Str} {iw : IniW} {g : Addr → Option Obj} {s : Shared} (h : ∀ a, g a = s.heap.get? a) : obsI n fa fn ts tf ex cls g = (hookI n fa fn ts tf ex cls iw).obs s := by
  have e : g = s.heap.get? := funext h
  rw [e] <;> rfl
/-! ### a def with its code object -/
theorem funC_of {K : Frag} {x : Str} {st : Stmt} {fa : Addr} {fd : FuncData} {p : Defn} (F : FnD K x st fa fd) (hp : fAd K p = fa) : FunC K x st fa (cT K p).1 fd := by
  obtain ⟨oc, od, dV, kV, doc, pm, an, cdv, ct, osl, e, lk, hcd, h1, h2⟩ := F.ex
  obtain ⟨c, rfl⟩ := codeIn_ref hcd
  have ec : (cT K p).1 = c := by
    unfold cT
    refine codeOf_eq (p := p) (by rw [hp]; exact lk) ?_
    rw [e]
  rw [ec]
  exact ⟨⟨oc, od, dV, kV, doc, pm, an, ct, osl, e, lk, hcd⟩, F⟩
/-- statements of a class's body -/
def bodyC : Stmt → List Stmt
  | .ClassDef _ _ _ b _ _ _ _ _ _ _ => b
  | _ => []
end DL
end

section
set_option Elab.async false
set_option linter.all false
set_option maxRecDepth 100000
set_option maxHeartbeats 4000000
/-! DL, part 31: sets whose members are tuples of keys (HandS.TupSets has them for tuples of ints): any kind of keys that asks nothing of classes. -/
namespace DL
open PySem PySem.Spec PyProof.Rows L2
section
variable {P : Program} {w : World} {K : Type} [DecidableEq K] {kd : KeyKind P w K}
structure Calm (kd : KeyKind P w K) : Prop where
  cls : ∀ (n : Nat) (k : K) (v : Value), kd.is k v = true → ofAClassStatement n v = pure false
  byv : ∀ (n : Nat) (k : K) (v : Value), kd.is k v = true → ∃ b : Bool, hashByValue n v = pure b
theorem calm_mix : Calm (mixKind P w) where
  cls := fun n k v h => by
    rcases keyIs_shape h with ⟨i, t, rfl, rfl⟩ | ⟨x, t, rfl, rfl⟩ <;> cases n <;> rfl
  byv := fun n k v h => by
    rcases keyIs_shape h with ⟨i, t, rfl, rfl⟩ | ⟨x, t, rfl, rfl⟩
    · exact ⟨true, by cases n <;> rfl⟩
    · exact ⟨false, by cases n <;> rfl⟩
theorem items_key {ks : List K} {vs : List Value} (h : ItemsAre kd ks vs) : ∀ v ∈ vs, ∃ k, kd.is k v = true := by
  induction h with
  | nil => intro v hv; cases hv
  | cons q _ ih => exact fun v hv => (List.mem_cons.mp hv).elim (fun e => ⟨_, e ▸ q⟩) (ih v)
variable {A : Around} {E : Value → Shared → Prop} {s : Shared}
theorem tk_noClass (cm : Calm kd) {ks : List K} {b : Addr} {Q : Bool → Shared → Prop} (hk : IsTupleKey kd s.heap ks b) (q : Q false s) : wpAny (model P w) A (ofAClassStatement 8 (.ref b)) Q E s := by
  have hT := hk.typeIs
  obtain ⟨o, its, n, ho, _, hd, hi⟩ := hk
  have ht : (("tuple" : String) == "tuple") = true := by decide
  unfold ofAClassStatement
  refine wpAny_bind (wpAny_typeOf hT ?_)
  simp only [ht, if_true, Bool.not_true, Bool.false_eq_true, if_false]
  try refine wpAny_bind (wpAny_pure ?_)
  try simp only [Bool.not_true, Bool.false_eq_true, if_false]
  show wpAny _ _ (seqItems? (.ref b) >>= _) _ _ s
  refine wpAny_bind (wpAny_seqItems ho hd ?_)
  dsimp only
  refine wpAny_bind ?_
  show wpAny _ _ (forIn its _ _) _ _ s
  rw [← Array.forIn_toList]
  refine wpAny_forIn_list _ (fun rest r s' => r.1 = none ∧ s' = s ∧ ∀ v ∈ rest, ∃ k, kd.is k v = true) _ ?_ ?_ _ _ ⟨rfl, rfl, items_key hi⟩
  · rintro v rest r s' ⟨h1, rfl, h3⟩
    obtain ⟨k, hk⟩ := h3 v List.mem_cons_self
    rw [cm.cls _ k v hk]
    refine wpAny_bind (wpAny_pure ?_)
    simp only [Bool.false_eq_true, if_false]
    exact wpAny_pure ⟨rfl, rfl, fun u hu => h3 u (List.mem_cons_of_mem _ hu)⟩
  · rintro ⟨r1, r2⟩ s' ⟨h1, rfl, _⟩
    simp only at h1
    subst h1
    exact wpAny_pure q
theorem tk_byValue (cm : Calm kd) {ks : List K} {b : Addr} {Q : Bool → Shared → Prop} (hk : IsTupleKey kd s.heap ks b) (q : ∀ c, Q c s) : wpAny (model P w) A (hashByValue 8 (.ref b)) Q E s := by
  have hT := hk.typeIs
  obtain ⟨o, its, n, ho, _, hd, hi⟩ := hk
  unfold hashByValue
  refine wpAny_bind (wpAny_specialOf hT F.slot_tuple_hash.lookup ?_)
  show wpAny _ _ (seqItems? (.ref b) >>= _) _ _ s
  refine wpAny_bind (wpAny_seqItems ho hd ?_)
  refine wpAny_bind ?_
  show wpAny _ _ (forIn its _ _) _ _ s
  rw [← Array.forIn_toList]
  refine wpAny_forIn_list _ (fun rest r s' => r.1 = none ∧ s' = s ∧ ∀ v ∈ rest, ∃ k, kd.is k v = true) _ ?_ ?_ _ _ ⟨rfl, rfl, items_key hi⟩
  · rintro v rest r s' ⟨h1, rfl, h3⟩
    obtain ⟨k, hk⟩ := h3 v List.mem_cons_self
    obtain ⟨c, hc⟩ := cm.byv 7 k v hk
    rw [hc]
    refine wpAny_bind (wpAny_pure ?_)
    cases c with
    | true =>
      simp only [Bool.not_true, Bool.false_eq_true, if_false]
      exact wpAny_pure ⟨rfl, rfl, fun u hu => h3 u (List.mem_cons_of_mem _ hu)⟩
    | false =>
      simp only [Bool.not_false, if_true]
      exact wpAny_pure (wpAny_pure (q false))
  · rintro ⟨r1, r2⟩ s' ⟨h1, rfl, _⟩
    simp only at h1
    subst h1
    exact wpAny_pure (q true)
theorem tk_unseen (cm : Calm kd) {ks : List K} {b : Addr} {Q : Bool → Shared → Prop} (hk : IsTupleKey kd s.heap ks b) {ys : List Value} (hy : ∀ y ∈ ys, ∃ js c, y = Value.ref c ∧ IsTupleKey kd s.heap js c) (q : Q false s) :
    wpAny (model P w) A (searchCouldBeSeen (.ref b) ys) Q E s := by
  unfold searchCouldBeSeen
  refine wpAny_bind ?_
  refine wpAny_forIn_list _ (fun rest r s' => r.1 = none ∧ s' = s ∧ ∀ y ∈ rest, ∃ js c, y = Value.ref c ∧ IsTupleKey kd s.heap js c) _ ?_ ?_ _ _ ⟨rfl, rfl, hy⟩
  · rintro v rest r s' ⟨h1, rfl, h3⟩
    obtain ⟨js, c, rfl, hc⟩ := h3 v List.mem_cons_self
    have more : ∀ y ∈ rest, ∃ js c, y = Value.ref c ∧ IsTupleKey kd s'.heap js c := fun u hu => h3 u (List.mem_cons_of_mem _ hu)
    dsimp only
    by_cases same : (b == c || (carriedByValue (.ref b) && carriedByValue (.ref c))) = true
    · exact wp_if_pos same (wpAny_pure ⟨rfl, rfl, more⟩)
    · refine wp_if_neg same ?_
      refine wpAny_bind (wpAny_eqIsQuiet_tuple hk ?_)
      simp only [Bool.not_true, Bool.false_eq_true, if_false]
      refine wpAny_bind (wpAny_eqIsQuiet_tuple hc ?_)
      simp only [Bool.not_true, Bool.false_eq_true, if_false]
      refine wpAny_bind (tk_noClass cm hk ?_)
      simp only [Bool.false_eq_true, if_false]
      refine wpAny_bind (tk_noClass cm hc ?_)
      simp only [Bool.false_eq_true, if_false]
      exact wpAny_pure ⟨rfl, rfl, more⟩
  · rintro ⟨r1, r2⟩ s' ⟨h1, rfl, _⟩
    simp only at h1
    subst h1
    exact wpAny_pure q
/-! ### the set -/
abbrev tkH (kd : KeyKind P w K) (p : Addr × List K) : Int := tupleKeyHash kd p.2
def rowsK (kd : KeyKind P w K) (L : List (Addr × List K)) : List (Int × Value) := L.map fun p => (tkH kd p, Value.ref p.1)
theorem rowsK_len {L : List (Addr × List K)} {es : Array (Int × Value)} (h : es.toList = rowsK kd L) : es.size = L.length := by
  rw [← Array.length_toList, h, rowsK, List.length_map]
theorem rowsK_get {L : List (Addr × List K)} {es : Array (Int × Value)} (h : es.toList = rowsK kd L) {i : Nat} {p : Addr × List K} (q : L[i]? = some p) : es[i]? = some (tkH kd p, Value.ref p.1) := by
  rw [← Array.getElem?_toList, h, rowsK, List.getElem?_map, q]; rfl
/-- a set at a whose members are the tuples of L -/
structure SetK (kd : KeyKind P w K) (h : Heap) (a : Addr) (L : List (Addr × List K)) (es : Array (Int × Value)) (ep : Nat) (t : SetTable) : Prop where
  obj : ∃ o, h.get? a = some o ∧ o.ExactSet ∧ o.data = .set es ep t
  rows : es.toList = rowsK kd L
  tab : TabOk t (L.map (tkH kd))
  nd : (L.map (·.2)).Nodup
  tup : ∀ p ∈ L, IsTupleKey kd h p.2 p.1
  led : w.params.followText "set-order" = true ∨ t.led = true
  room : L.length * 5 < t.mask * 3
  few : L.length < 64
section
variable {a : Addr} {L : List (Addr × List K)} {es : Array (Int × Value)} {ep : Nat} {t : SetTable}
theorem SetK.fits (R : SetK kd s.heap a L es ep t) : t.fits es.size = true := by
  have h1 := R.tab.sz
  rw [List.length_map] at h1
  have h2 := rowsK_len R.rows
  have h3 := R.room
  unfold SetTable.fits SetTable.fill
  rw [R.tab.dm, Bool.and_eq_true, beq_iff_eq, decide_eq_true_eq]
  show t.place.size = es.size ∧ t.place.size + 0 ≤ t.mask
  omega
theorem SetK.stays (R : SetK kd s.heap a L es ep t) : ¬ t.gaveWay = true := by
  unfold SetTable.gaveWay
  rw [mask_odd R.tab.mok]
  decide
abbrev pr0 (t : SetTable) (h : Int) (c : Nat) : SetTable.Probe := nth t.mask (runAt t.mask (SetTable.bits h % (t.mask + 1)) (SetTable.bits h)) c
theorem pr0_dummy (t : SetTable) (h : Int) (c : Nat) : (pr0 t h c).dummy = none := by
  have go : ∀ (n : Nat) (p : SetTable.Probe), p.dummy = none → (nth t.mask p n).dummy = none := fun n => by
    induction n with
    | zero => exact fun p h => h
    | succ n ih => exact fun p h => ih (adv t.mask p) (by unfold adv; split <;> exact h)
  exact go c _ rfl
theorem pr0_add (t : SetTable) (h : Int) (c q : Nat) : nth t.mask (pr0 t h c) q = pr0 t h (c + q) := (nth_add t.mask c _ q).symm
theorem search_k (cm : Calm kd) (R : SetK kd s.heap a L es ep t) {x : Addr} {k : List K} (hx : IsTupleKey kd s.heap k x) (hu : A.units < cLine) {N : Nat} (hN : N < 10 * SetTable.turns t.mask)
    (off : way t.mask (tupleKeyHash kd k) N ∉ t.place.toList) (on : ∀ c, c < N → way t.mask (tupleKeyHash kd k) c ∈ t.place.toList) {Q : SetFound → Shared → Prop}
    (yes : k ∈ L.map (·.2) → Q (.there none) s) (no : k ∉ L.map (·.2) → Q (.free (way t.mask (tupleKeyHash kd k) N) false) s) :
    ∀ (f c : Nat) (st : Option SetTable.Probe), st.getD (t.probeStart (tupleKeyHash kd k)) = pr0 t (tupleKeyHash kd k) c → c ≤ N → N - c < f →
      (∀ (i : Nat) p, L[i]? = some p → p.2 = k → ∃ c', c ≤ c' ∧ c' < N ∧ t.place.toList[i]? = some (way t.mask (tupleKeyHash kd k) c')) →
      wpAny (model P w) A (setSearchFrom a (.ref x) (tupleKeyHash kd k) true f st) Q E s := by
  obtain ⟨o, ho, _, hd⟩ := R.obj
  generalize hh : tupleKeyHash kd k = hv at *
  have hashAt : ∀ (i : Nat) p, L[i]? = some p → (es[i]?.map (·.1)).getD 0 = tkH kd p := fun i p hp => by
    rw [rowsK_get R.rows hp]; rfl
  intro f
  induction f with
  | zero => exact fun c st _ _ hf => absurd hf (Nat.not_lt_zero _)
  | succ f ih =>
    intro c st hst hc hf here
    rw [setSearchFrom_succ]
    refine wpAny_bind (wpAny_setState_of ho hd R.fits ?_)
    dsimp only
    refine wp_if_neg R.stays ?_
    try refine wpAny_bind (wpAny_pure ?_)
    have wy : ∀ q, (nth t.mask (pr0 t hv c) q).j = way t.mask hv (c + q) := fun q => congrArg SetTable.Probe.j (pr0_add t hv c q)
    have cN : c + (N - c) = N := by omega
    rcases go_spec t R.tab.ris R.tab.dm (fun i => (es[i]?.map (·.1)).getD 0) hv (10 * SetTable.turns t.mask) (N - c) (pr0 t hv c) (pr0_dummy t hv c) (by omega) (fun q hq => by rw [wy]; exact on _ (by omega)) (by rw [wy, cN]; exact off) with
      ⟨q, i, hq, hi, hs, first, pe⟩ | ⟨none_, pe⟩
    · have pe' : t.probe (fun i => (es[i]?.map (·.1)).getD 0) hv (st.getD (t.probeStart hv)) = some (.candidate (way t.mask hv (c + q)) i (pr0 t hv (c + (q + 1)))) := by
        rw [hst, ← wy, ← pr0_add]; exact pe
      rw [pe']
      dsimp only
      rw [wy] at hi
      have il : i < L.length := by
        have h1 := (List.getElem?_eq_some_iff.mp hi).1
        have h2 := R.tab.sz
        rw [List.length_map] at h2
        rw [Array.length_toList] at h1
        omega
      obtain ⟨p, hp⟩ : ∃ p, L[i]? = some p := ⟨_, List.getElem?_eq_getElem il⟩
      have pm : p ∈ L := List.mem_of_getElem? hp
      have sl : t.slot (way t.mask hv (c + q)) = .live i := slot_live R.tab.ris hi
      have rest : wpAny (model P w) A (searchRest a (.ref x) hv true f es t (way t.mask hv (c + q)) i (pr0 t hv (c + (q + 1)))) Q E s := by
        unfold searchRest
        rw [rowsK_get R.rows hp]
        dsimp only
        refine wpAny_bind (wpAny_holding (wpAny_eqBool_tuple hu (R.tup p pm) hx ?_))
        refine wpAny_bind (wpAny_setState_of ho hd R.fits ?_)
        dsimp only
        by_cases kk : p.2 = k
        · exact wp_if_pos (by simp [kk]) (wpAny_pure (yes (List.mem_map.mpr ⟨p, pm, kk⟩)))
        · refine wp_if_neg (by simp [kk]) ?_
          try refine wpAny_bind (wpAny_pure ?_)
          rw [sameMem]
          simp only [if_true, sl, rowsK_get R.rows hp]
          refine wpAny_bind (wpAny_isSame_ref_self (wpAny_bind (wpAny_pure ?_)))
          simp only [if_true]
          refine wp_if_neg (by simp [kk]) (ih (c + (q + 1)) _ rfl (by omega) (by omega) fun j r hj hr => ?_)
          obtain ⟨c', a1, a2, a3⟩ := here j r hj hr
          refine ⟨c', ?_, a2, a3⟩
          refine Classical.byContradiction fun lt => ?_
          rcases Nat.lt_or_ge c' (c + q) with z | z
          · refine first (c' - c) j (by omega) (by rw [wy, show c + (c' - c) = c' by omega]; exact a3) ?_
            rw [hashAt j r hj, tkH, hr, hh]
          · have ec : c' = c + q := by omega
            rw [ec] at a3
            have s0 := slot_live R.tab.ris a3
            rw [sl] at s0
            injection s0 with s0
            rw [← s0, hp] at hj
            exact kk (by rw [Option.some.inj hj]; exact hr)
      by_cases hl : t.led = true
      · refine wp_if_neg (by simp [hl]) ?_
        try refine wpAny_bind (wpAny_pure ?_)
        exact rest
      · refine wp_if_pos (by simp [hl]) ?_
        refine wpAny_bind (tk_unseen cm hx (fun y hy => ?_) ?_)
        · obtain ⟨e, he, rfl⟩ := List.mem_map.mp hy
          have he2 : e ∈ es.toList := by simpa using (show e ∈ es ∧ e.1 = hv by simpa using he).1
          rw [R.rows] at he2
          obtain ⟨r, hr, rfl⟩ := List.mem_map.mp he2
          exact ⟨r.2, r.1, rfl, R.tup r hr⟩
        · refine wp_if_neg (by decide) ?_
          try refine wpAny_bind (wpAny_pure ?_)
          exact rest
    · have pe' : t.probe (fun i => (es[i]?.map (·.1)).getD 0) hv (st.getD (t.probeStart hv)) = some (.empty (way t.mask hv N) none) := by
        have e2 : way t.mask hv N = (nth t.mask (pr0 t hv c) (N - c)).j := by rw [wy, cN]
        rw [hst, e2]; exact pe
      rw [pe']
      dsimp only
      refine wpAny_pure (no fun hm => ?_)
      obtain ⟨r, hr, kr⟩ := List.mem_map.mp hm
      obtain ⟨j, jl, ej⟩ := List.getElem_of_mem hr
      have hj : L[j]? = some r := by rw [List.getElem?_eq_getElem jl, ej]
      obtain ⟨c', a1, a2, a3⟩ := here j r hj kr
      refine none_ (c' - c) j (by omega) (by rw [wy, show c + (c' - c) = c' by omega]; exact a3) ?_
      rw [hashAt j r hj, tkH, kr, hh]
theorem find_k (cm : Calm kd) (R : SetK kd s.heap a L es ep t) {x : Addr} {k : List K} (hx : IsTupleKey kd s.heap k x) (hu : A.units < cLine) {Q : SetFound → Shared → Prop} (yes : k ∈ L.map (·.2) → Q (.there none) s)
    (no : ∀ N, k ∉ L.map (·.2) → way t.mask (tupleKeyHash kd k) N ∉ t.place.toList → (∀ c, c < N → way t.mask (tupleKeyHash kd k) c ∈ t.place.toList) → Q (.free (way t.mask (tupleKeyHash kd k) N) false) s) :
    wpAny (model P w) A (setSearch a (.ref x) (tupleKeyHash kd k) true) Q E s := by
  have room := R.room
  obtain ⟨N, n1, n2, n3⟩ := R.tab.first (by rw [List.length_map]; omega) (tupleKeyHash kd k)
  have small : N < 100000 := by
    have : 10 * SetTable.turns t.mask ≤ 1420 := by
      unfold SetTable.turns
      rcases R.tab.mok with e | e | e <;> omega
    omega
  unfold setSearch
  refine search_k cm R hx hu n1 n2 n3 yes (fun z => no N z n2 n3) 100000 0 none rfl (Nat.zero_le _) (by omega) fun i p hp hk => ?_
  have hi : (L.map (tkH kd))[i]? = some (tupleKeyHash kd k) := by rw [List.getElem?_map, hp, ← hk]; rfl
  have il : i < t.place.toList.length := by
    have h1 := (List.getElem?_eq_some_iff.mp hp).1
    have h2 := R.tab.sz
    rw [List.length_map] at h2
    rw [Array.length_toList]
    omega
  have hj := List.getElem?_eq_getElem il
  obtain ⟨c, hc, e⟩ := R.tab.before n2 hi hj
  exact ⟨c, Nat.zero_le _, hc, by rw [hj, e]⟩
theorem range_get {α : Type} : ∀ l : List α, (List.range l.length).filterMap (fun i => l[i]?) = l
  | [] => rfl
  | a :: l => by
    rw [List.length_cons, List.range_succ_eq_map, List.filterMap_cons_some (f := fun i => (a :: l)[i]?) (a := 0) (b := a) rfl, List.filterMap_map]
    show a :: (List.range l.length).filterMap (fun i => l[i]?) = _
    rw [range_get l]
/-- the rows in another sequence -/
theorem rows_order {L : List (Addr × List K)} {es : Array (Int × Value)} (h : es.toList = rowsK kd L) {order : Array Nat} (hp : order.toList.Perm (List.range L.length)) :
    ∃ L', (order.filterMap (es[·]?)).toList = rowsK kd L' ∧ L'.Perm L ∧ L'.map (tkH kd) = order.toList.map fun i => (es.map (·.1)).getD i 0 := by
  have hsz := rowsK_len h
  have key : ∀ l : List Nat, (∀ i ∈ l, i < L.length) → l.filterMap (fun i => es[i]?) = rowsK kd (l.filterMap fun i => L[i]?) ∧ (l.filterMap fun i => L[i]?).map (tkH kd) = l.map fun i => (es.map (·.1)).getD i 0 := fun l => by
    induction l with
    | nil => exact fun _ => ⟨rfl, rfl⟩
    | cons i l ih =>
      intro hl
      have hi := hl i List.mem_cons_self
      obtain ⟨e1, e2⟩ := ih fun j hj => hl j (List.mem_cons_of_mem _ hj)
      have q : L[i]? = some L[i] := List.getElem?_eq_getElem hi
      have g : (es.map (·.1)).getD i 0 = tkH kd L[i] := by
        have : (es.map (·.1))[i]? = some (tkH kd L[i]) := by rw [Array.getElem?_map, rowsK_get h q]; rfl
        simp [Array.getD_eq_getD_getElem?, this]
      rw [List.filterMap_cons_some (rowsK_get h q), List.filterMap_cons_some q, e1, List.map_cons, List.map_cons, e2, g]
      exact ⟨rfl, rfl⟩
  obtain ⟨e1, e2⟩ := key order.toList fun i hi => List.mem_range.mp (hp.mem_iff.mp hi)
  refine ⟨_, ?_, ?_, e2⟩
  · first | (rw [Array.toList_filterMap]; exact e1) | simpa using e1
  · have h1 := hp.filterMap fun i => L[i]?
    rw [range_get] at h1
    exact h1
theorem tk_same {h h' : Heap} {ks : List K} {a b : Addr} {o : Obj} {es : Array (Int × Value)} {ep : Nat} {t : SetTable} (x : IsTupleKey kd h ks b) (ho : h.get? a = some o) (hd : o.data = .set es ep t) (hs : Heap.SameBut a h h') : IsTupleKey kd h' ks b := by
  obtain ⟨o2, its, n, h2, hc, hd2, hi⟩ := x
  refine ⟨o2, its, n, (hs.2 b ?_).trans h2, hc, hd2, hi⟩
  rintro rfl
  rw [Option.some.inj (h2.symm.trans ho), hd] at hd2
  exact nomatch hd2
section
variable {a : Addr} {L : List (Addr × List K)} {es : Array (Int × Value)} {ep : Nat} {t : SetTable}
/-- the table laid anew -/
theorem relay_k {o : Obj} (ho : s.heap.get? a = some o) (hex : o.ExactSet) (hd : o.data = .set es ep t) (rows : es.toList = rowsK kd L) (sz : t.place.size = es.size) (dm : t.dummies = #[]) (fit : es.size ≤ t.mask)
    (nd : (L.map (·.2)).Nodup) (tup : ∀ p ∈ L, IsTupleKey kd s.heap p.2 p.1) (led : w.params.followText "set-order" = true ∨ t.led = true) (few : L.length < 64) {wanted M : Nat}
    (hM : SetTable.sizeAbove wanted - 1 = M) (ok : MaskOk M) (top : SetTable.sizeAbove wanted ≤ 128) (room : L.length * 5 < M * 3) {Q : Unit → Shared → Prop}
    (q : ∀ h' L' es' ep' t', Heap.SameBut a s.heap h' → SetK kd h' a L' es' ep' t' → L'.Perm L → Q () { s with heap := h' }) : wpAny (model P w) A (setRelay a wanted) Q E s := by
  have len := rowsK_len rows
  have fits : t.fits es.size = true := by
    unfold SetTable.fits SetTable.fill
    rw [dm, Bool.and_eq_true, beq_iff_eq, decide_eq_true_eq]
    show t.place.size = es.size ∧ t.place.size + 0 ≤ t.mask
    omega
  obtain ⟨t', order, e, hp, T, em, el, _, _⟩ := relaid_ok t (hs := es.map (·.1)) (wanted := wanted) hM ok (by rw [Array.size_map, len]; omega)
  rw [Array.size_map, len] at hp
  obtain ⟨L', r1, r2, r3⟩ := rows_order rows hp
  rw [← r3] at T
  have len2 := (rowsK_len r1).trans r2.length_eq
  rw [setRelay_eq]
  refine wpAny_bind (wpAny_setState_of ho hd fits ?_)
  dsimp only
  refine wp_if_neg (by rw [sizeLine_eq]; omega) ?_
  try refine wpAny_bind (wpAny_pure ?_)
  rw [e]
  dsimp only
  refine wpAny_bind ?_
  refine wp_if_neg (by rw [len2, len]; simp) ?_
  try refine wpAny_bind (wpAny_pure ?_)
  refine wpAny_pure ?_
  dsimp only
  refine wpAny_storeSet_of ho hd ?_ (by rw [len2, sizeLine_eq]; omega)
  have sb := Heap.SameBut.update s.heap a (Obj.putSet (order.filterMap (es[·]?)) t')
  exact q _ L' _ (ep + 1) t' sb ⟨⟨_, store_at ho hd, ⟨hex.1, hex.2.1, hex.2.2⟩, rfl⟩, r1, T, (r2.map (·.2)).nodup_iff.mpr nd, fun p hm => tk_same (tup p (r2.mem_iff.mp hm)) ho hd sb, by rw [el]; exact led, by rw [r2.length_eq, em]; exact room, by rw [r2.length_eq]; exact few⟩ r2
/-- a tuple is added -/
theorem add_k (cm : Calm kd) (R : SetK kd s.heap a L es ep t) {x : Addr} {k : List K} (hx : IsTupleKey kd s.heap k x) (hu : A.units < cLine) (more : L.length + 1 < 64) {Q : Bool → Shared → Prop}
    (q : ∀ b h' L' es' ep' t', Heap.SameBut a s.heap h' → SetK kd h' a L' es' ep' t' → (k ∈ L.map (·.2) → L' = L) → (k ∉ L.map (·.2) → L'.Perm ((x, k) :: L)) → Q b { s with heap := h' }) :
    wpAny (model P w) A (setAddHashed a (.ref x) (tupleKeyHash kd k)) Q E s := by
  obtain ⟨o, ho, hex, hd⟩ := R.obj
  have len := rowsK_len R.rows
  have room := R.room
  unfold setAddHashed
  refine wpAny_holding ?_
  rw [show (100000 : Nat) = 99999 + 1 from rfl, setAddHashedIn_succ]
  refine wpAny_bind (wpAny_setState_of ho hd R.fits ?_)
  dsimp only
  refine wp_if_neg (by simp [byScan, Value.scannable]) ?_
  try refine wpAny_bind (wpAny_pure ?_)
  refine wpAny_bind (find_k cm R hx hu (fun hm => ?_) fun N hm off on => ?_)
  · dsimp only
    exact wpAny_pure (q false s.heap L es ep t (Heap.SameBut.refl a s.heap) R (fun _ => rfl) fun z => absurd hm z)
  dsimp only
  refine wpAny_bind (wpAny_setState_of ho hd R.fits ?_)
  dsimp only
  obtain ⟨q1, q2, q3, q4, q5, _, _, _, q9⟩ := R.tab.put off on
  generalize hpt : t.put (way t.mask (tupleKeyHash kd k) N) = pt at q1 q3 q4 q5 q9 ⊢
  obtain ⟨t1, p⟩ := pt
  dsimp only at q1 q3 q4 q5 q9 ⊢
  subst q1
  have rows1 : (SetTable.insertAt es (SetTable.below t.place (way t.mask (tupleKeyHash kd k) N)) (tupleKeyHash kd k, Value.ref x)).toList = rowsK kd (L.take (SetTable.below t.place (way t.mask (tupleKeyHash kd k) N)) ++ (x, k) :: L.drop (SetTable.below t.place (way t.mask (tupleKeyHash kd k) N))) := by
    rw [SetTable.toList_insertAt, R.rows]
    simp only [rowsK, List.map_append, List.map_cons, List.map_take, List.map_drop]
  generalize hpp : SetTable.below t.place (way t.mask (tupleKeyHash kd k) N) = p at q2 q3 rows1 ⊢
  have pm := put_perm L p (x, k)
  have hlen : (L.take p ++ (x, k) :: L.drop p).length = L.length + 1 := pm.length_eq
  have hhs : (L.take p ++ (x, k) :: L.drop p).map (tkH kd) = (L.map (tkH kd)).take p ++ tupleKeyHash kd k :: (L.map (tkH kd)).drop p := by
    rw [List.map_append, List.map_cons, List.map_take, List.map_drop]
  rw [← hhs] at q3
  have nd1 : ((L.take p ++ (x, k) :: L.drop p).map (·.2)).Nodup := (pm.map (·.2)).nodup_iff.mpr (List.nodup_cons.mpr ⟨hm, R.nd⟩)
  have hes := (rowsK_len rows1).trans hlen
  generalize SetTable.insertAt es p (tupleKeyHash kd k, Value.ref x) = es1 at rows1 hes ⊢
  generalize L.take p ++ (x, k) :: L.drop p = L1 at pm hlen q3 nd1 rows1
  -- whatever is known of hashes by value, the table is the same
  have rest : ∀ t2 : SetTable, t2.place = t1.place → t2.dummies = t1.dummies → t2.mask = t1.mask → t2.led = t1.led → TabOk t2 (L1.map (tkH kd)) → t2.fill = (L.map (tkH kd)).length + 1 → wpAny (model P w) A (do
      storeSet a es1 t2
      if (!false && t2.tooFull) = true then setRelay a (SetTable.grown (es.size + 1))
      return true) Q E s := by
    intro t2 c1 c2 c3 c4 T2 c5
    refine wpAny_bind (wpAny_storeSet_of ho hd ?_ (by rw [hes, sizeLine_eq]; omega))
    have sb := Heap.SameBut.update s.heap a (Obj.putSet es1 t2)
    have ho1 := store_at (es' := es1) (t' := t2) ho hd
    generalize s.heap.update a (Obj.putSet es1 t2) = h1 at sb ho1 ⊢
    have tup1 : ∀ p ∈ L1, IsTupleKey kd h1 p.2 p.1 := fun p hp => by
      rcases List.mem_cons.mp (pm.mem_iff.mp hp) with e | hp
      · rw [e]; exact tk_same hx ho hd sb
      · exact tk_same (R.tup p hp) ho hd sb
    have led1 : w.params.followText "set-order" = true ∨ t2.led = true := by rw [c4, q5]; exact R.led
    by_cases hf : t2.tooFull = true
    · have full : (L.length + 1) * 5 ≥ t.mask * 3 := by
        have z := hf
        unfold SetTable.tooFull at z
        rw [decide_eq_true_eq, c5, List.length_map, c3, q4] at z
        exact z
      have sz1 : t2.place.size = es1.size := by
        have z := T2.sz
        rw [List.length_map, hlen] at z
        rw [z, hes]
      have cs : (t.mask = 7 ∧ L.length = 4) ∨ (t.mask = 31 ∧ L.length = 18) := by
        rcases R.tab.mok with e | e | e <;> rw [e] at full room <;> first | exact .inl ⟨e, by omega⟩ | exact .inr ⟨e, by omega⟩ | omega
      have go : ∀ M, SetTable.sizeAbove (SetTable.grown (L.length + 1)) - 1 = M → MaskOk M → SetTable.sizeAbove (SetTable.grown (L.length + 1)) ≤ 128 → (L.length + 1) * 5 < M * 3 →
          wpAny (model P w) A (setRelay a (SetTable.grown (L.length + 1))) (fun _ s' => wpAny (model P w) A (pure true) Q E s') E { s with heap := h1 } := fun M g1 g2 g3 g4 => by
        refine relay_k (s := { s with heap := h1 }) ho1 ⟨hex.1, hex.2.1, hex.2.2⟩ rfl rows1 sz1 T2.dm (by rw [hes, c3, q4]; rcases cs with ⟨e, e2⟩ | ⟨e, e2⟩ <;> omega) nd1 tup1 led1 (by rw [hlen]; exact more) g1 g2 g3 (by rw [hlen]; exact g4) ?_
        intro h2 L2 es2 ep2 t2 sb2 R2 pm2
        exact wpAny_pure (q true h2 L2 es2 ep2 t2 (sb.trans sb2) R2 (fun z => absurd z hm) fun _ => pm2.trans pm)
      first
        | (refine wpAny_bind ?_; refine wp_if_pos (by simp [hf]) ?_)
        | (refine wp_if_pos (by simp [hf]) ?_; refine wpAny_bind ?_)
      rw [len]
      rcases cs with ⟨_, e2⟩ | ⟨_, e2⟩
      · exact go 31 (by rw [e2, size_20]) (.inr (.inl rfl)) (by rw [e2, size_20]; decide) (by omega)
      · exact go 127 (by rw [e2, size_76]) (.inr (.inr rfl)) (by rw [e2, size_76]; decide) (by omega)
    · first
        | refine wp_if_neg (by simp [hf]) ?_
        | (refine wpAny_bind ?_; refine wp_if_neg (by simp [hf]) ?_; refine wpAny_pure ?_)
      refine wpAny_pure (q true h1 L1 es1 (ep + 1) t2 sb ⟨⟨_, ho1, ⟨hex.1, hex.2.1, hex.2.2⟩, rfl⟩, rows1, T2, nd1, tup1, led1, ?_, by rw [hlen]; exact more⟩ (fun z => absurd z hm) fun _ => pm)
      have z := hf
      unfold SetTable.tooFull at z
      rw [decide_eq_true_eq, c5, List.length_map] at z
      rw [hlen]
      omega
  have off_ : TabOk ({ t1 with plain := false } : SetTable) (L1.map (tkH kd)) := ⟨q3.ris, q3.dm, q3.sz, q3.mok, q3.bd, q3.reach⟩
  have byv : ∀ c : Bool, wpAny (model P w) A (do
      storeSet a es1 (if c = true then t1 else { t1 with plain := false })
      if (!false && (if c = true then t1 else { t1 with plain := false }).tooFull) = true then setRelay a (SetTable.grown (es.size + 1))
      return true) Q E s := fun c => by
    cases c with
    | true => exact rest t1 rfl rfl rfl rfl q3 q9
    | false => exact rest _ rfl rfl rfl rfl off_ q9
  by_cases hpl : t1.plain = true
  · first
      | (refine wpAny_bind ?_; refine wp_if_pos hpl ?_; exact tk_byValue cm hx byv)
      | exact wp_if_pos hpl (wpAny_bind (tk_byValue cm hx byv))
  · first
      | (refine wpAny_bind ?_; refine wp_if_neg hpl ?_; exact wpAny_pure (byv true))
      | exact wp_if_neg hpl (wpAny_bind (wpAny_pure (byv true)))
      | exact wp_if_neg hpl (byv true)
end
end
end
end DL
end

section
set_option Elab.async false
set_option linter.all false
set_option maxRecDepth 100000
set_option maxHeartbeats 4000000
/-! DL, part 32: set(a list of tuples), and what sorted makes of it. -/
namespace DL
open PySem PySem.Spec PyProof.Rows L2
section
variable {P : Program} {w : World} {K : Type} [DecidableEq K] {kd : KeyKind P w K}
/-- what a set holds of the first i tuples -/
structure GotK (ks : List (Addr × List K)) (i : Nat) (L : List (Addr × List K)) : Prop where
  from_ : ∀ p ∈ L, p ∈ ks.take i
  whole : ∀ p ∈ ks.take i, p.2 ∈ L.map (·.2)
  small : L.length ≤ i
theorem GotK.none (ks : List (Addr × List K)) : GotK ks 0 [] := ⟨fun _ h => (by cases h), fun _ h => (by simp at h), Nat.le_refl _⟩
theorem GotK.again {ks L : List (Addr × List K)} {i : Nat} {x : Addr × List K} (g : GotK ks i L) (h : ks[i]? = some x) (hm : x.2 ∈ L.map (·.2)) : GotK ks (i + 1) L := by
  have e := take_next h
  refine ⟨fun p hp => ?_, fun p hp => ?_, Nat.le_succ_of_le g.small⟩
  · rw [e]; exact List.mem_append_left _ (g.from_ p hp)
  · rw [e, List.mem_append, List.mem_singleton] at hp
    rcases hp with z | rfl
    · exact g.whole p z
    · exact hm
theorem GotK.put {ks L L' : List (Addr × List K)} {i : Nat} {x : Addr × List K} (g : GotK ks i L) (h : ks[i]? = some x) (pm : L'.Perm (x :: L)) : GotK ks (i + 1) L' := by
  have e := take_next h
  refine ⟨fun p hp => ?_, fun p hp => ?_, ?_⟩
  · rw [e, List.mem_append, List.mem_singleton]
    rcases List.mem_cons.mp (pm.mem_iff.mp hp) with z | z
    · exact .inr z
    · exact .inl (g.from_ p z)
  · rw [(pm.map (·.2)).mem_iff, List.map_cons, List.mem_cons]
    rw [e, List.mem_append, List.mem_singleton] at hp
    rcases hp with z | rfl
    · exact .inr (g.whole p z)
    · exact .inl rfl
  · have := g.small
    rw [pm.length_eq, List.length_cons]
    omega
theorem tk_keep {h h' : Heap} {k : List K} {b : Addr} (x : IsTupleKey kd h k b) (hk : ∀ c o, h.get? c = some o → h'.get? c = some o) : IsTupleKey kd h' k b := by
  obtain ⟨o, its, n, ho, r⟩ := x
  exact ⟨o, its, n, hk b o ho, r⟩
theorem SetK.carry {h h' : Heap} {a : Addr} {L : List (Addr × List K)} {es : Array (Int × Value)} {ep : Nat} {t : SetTable} (R : SetK kd h a L es ep t) (ha : ∀ o, h.get? a = some o → h'.get? a = some o) (ht : ∀ p ∈ L, IsTupleKey kd h' p.2 p.1) : SetK kd h' a L es ep t := by
  obtain ⟨o, ho, r⟩ := R.obj
  exact ⟨⟨o, ha o ho, r⟩, R.rows, R.tab, R.nd, ht, R.led, R.room, R.few⟩
theorem setK_fresh {h : Heap} {a : Addr} (ho : h.get? a = some { cls := .type "set", dict := none, data := .set #[] 0 (.fresh 0 0 (!w.params.followText "set-order")) }) : SetK kd h a [] #[] 0 (.fresh 0 0 (!w.params.followText "set-order")) :=
  ⟨⟨_, ho, ⟨rfl, rfl, rfl⟩, rfl⟩, rfl, ⟨List.Pairwise.nil, rfl, rfl, .inl rfl, fun x hx => (by cases hx), fun i h j hi => (by simp at hi)⟩, List.nodup_nil, fun _ hp => (by cases hp),
    by show _ ∨ (!w.params.followText "set-order") = true
       cases w.params.followText "set-order"
       · exact .inr rfl
       · exact .inl rfl,
    (by decide : 0 * 5 < 7 * 3), (by decide : 0 < 64)⟩
variable {A : Around} {E : Value → Shared → Prop} {s : Shared}
theorem loop_k (cm : Calm kd) {I : Addr} {fp wr : List Addr} {G : Array GenState → Array GenState → Prop} {n : Nat} {Pv : Nat → Value → Prop} {St : Nat → Shared → Prop} {R : Result → Shared → Prop}
    (W : WalksS P w A.in1 I fp wr G n Pv St) (S : Addr) (hSf : S ∉ fp) (ks : List (Addr × List K)) (hn : n = ks.length) (hfew : ks.length < 64) (hval : ∀ i v, Pv i v → ∃ p, ks[i]? = some p ∧ v = .ref p.1)
    (h0 : Heap) (hk : ∀ p ∈ ks, IsTupleKey kd h0 p.2 p.1) (hS0 : h0.get? S = none) (hw0 : ∀ b ∈ wr, h0.get? b = none) (hu : A.in1.units < cLine) :
    ∀ (k i : Nat) (s : Shared), n - i = k → i ≤ n → St i s → (∀ b o, h0.get? b = some o → s.heap.get? b = some o) → (∃ L es ep t, SetK kd s.heap S L es ep t ∧ GotK ks i L) →
      (∀ s' L es ep t, Moved (S :: wr) G s s' → SetK kd s'.heap S L es ep t → GotK ks n L → (∀ b o, h0.get? b = some o → s'.heap.get? b = some o) → R (.ok (.ret .none)) s') →
      codeAny (model P w) A (.builtin "set.update.loop" ⟨[.ref S, .ref I], []⟩) R s := by
  have apart : S ∉ wr := fun h => hSf (W.sub _ h)
  have wide : ∀ b ∈ wr, b ∈ S :: wr := fun b hb => List.mem_cons_of_mem _ hb
  have still : ∀ {u u' : Shared}, Moved wr G u u' → (∀ b o, h0.get? b = some o → u.heap.get? b = some o) → ∀ b o, h0.get? b = some o → u'.heap.get? b = some o := fun hm hkp b o e =>
    hm.heap b o (fun hb => by rw [hw0 b hb] at e; cases e) (hkp b o e)
  have within : ∀ {i L}, GotK ks i L → ∀ p ∈ L, p ∈ ks := fun g p hp => List.mem_of_mem_take (g.from_ p hp)
  intro k
  induction k with
  | zero =>
    intro i s hk' hi hst hkp ⟨L, es, ep, t, hS, g⟩ hR
    obtain rfl : i = n := by omega
    refine codeAny_builtin F.entry_set_update_loop ?_
    rw [Around.under_plainId F.plain_set_update_loop _]
    refine wpAny_bind (W.done s _ _ hst fun u hm => ?_)
    have hkp' := still hm hkp
    exact wpAny_pure (hR u L es ep t (hm.mono wide) (hS.carry (fun o e => hm.heap S o apart e) fun p hp => tk_keep (hk p (within g p hp)) hkp') g hkp')
  | succ k ih =>
    intro i s hk' hi hst hkp ⟨L, es, ep, t, hS, g⟩ hR
    have hlt : i < n := by omega
    refine codeAny_builtin F.entry_set_update_loop ?_
    rw [Around.under_plainId F.plain_set_update_loop _]
    refine wpAny_bind (W.item i s _ _ hlt hst fun v u hP hst' hm => ?_)
    obtain ⟨p, hp, rfl⟩ := hval i v hP
    have hkp' := still hm hkp
    have hS' : SetK kd u.heap S L es ep t := hS.carry (fun o e => hm.heap S o apart e) fun q hq => tk_keep (hk q (within g q hq)) hkp'
    have hx : IsTupleKey kd u.heap p.2 p.1 := tk_keep (hk p (List.mem_of_getElem? hp)) hkp'
    show wpAny _ A.in1 (holding [Value.ref p.1] (setAdd S (.ref p.1)) >>= _) _ _ u
    refine wpAny_bind (wpAny_holding ?_)
    unfold setAdd
    refine wpAny_holding (wpAny_bind (wpAny_pyHash_tuple hu hx ?_))
    refine add_k (s := { u with toks := u.toks + (p.2.length + 1) }) cm hS' hx hu (by have := g.small; omega) fun b h' L' es' ep' t' same hS2 c1 c2 => ?_
    have g' : GotK ks (i + 1) L' := by
      by_cases c : p.2 ∈ L.map (·.2)
      · rw [c1 c]; exact g.again hp c
      · exact g.put hp (c2 c)
    have hkp2 : ∀ b o, h0.get? b = some o → h'.get? b = some o := fun b o e => (same.2 b (fun z => by rw [z, hS0] at e; cases e)).trans (hkp' b o e)
    refine wpAny_pure ⟨plainId_quiet F.plain_set_update_loop _, ih (i + 1) _ (by omega) hlt (W.frame _ u _ _ hst' (Nat.le_add_right _ _) fun b hb o e => ?_) hkp2 ⟨L', es', ep', t', hS2, g'⟩ fun u2 L2 es2 ep2 t2 m2 hS'' g'' hkp'' => ?_⟩
    · rw [same.2 b (fun h : b = S => hSf (by rw [← h]; exact hb))]; exact e
    · refine hR u2 L2 es2 ep2 t2 (Moved.trans W.gtrans ((hm.mono wide).then_heap (Nat.le_add_right _ _) fun b o hb e => ?_) m2) hS'' g'' hkp''
      rw [same.2 b (fun h : b = S => hb (by rw [h]; exact List.mem_cons_self))]; exact e
abbrev newSet (w : World) : Obj := { cls := .type "set", dict := none, data := .set #[] 0 (.fresh 0 0 (!w.params.followText "set-order")) }
/-- set(xs) -/
theorem call_set_k (cm : Calm kd) {l : Addr} {items : Array Value} (ks : List (Addr × List K)) {Q : Value → Shared → Prop} (hh : A.handled = none) (hl : s.heap.IsList l items) (hit : items.toList = ks.map fun p => Value.ref p.1)
    (hk : ∀ p ∈ ks, IsTupleKey kd s.heap p.2 p.1) (hfew : ks.length < 64) (hu : A.units + 3 < cLine)
    (h : ∀ (h' : Heap) (tk : Nat) L es ep t, SetK kd h' s.heap.objs.size L es ep t → GotK ks ks.length L → (∀ b o, s.heap.get? b = some o → h'.get? b = some o) → Q (.ref s.heap.objs.size) { s with heap := h', toks := tk }) :
    wpAny (model P w) A (call (.type "set") [.ref l]) Q E s := by
  have hisz : items.size = ks.length := by simpa using congrArg List.length hit
  obtain ⟨c, tl, hmro⟩ := F.called_set.mro
  have hmade := F.called_set.made
  have hsub := F.called_set.sub
  refine wpAny_call (codeAny_of_tree ?_)
  show wpAny _ _ (callAny (.type "set") _) _ _ _
  refine wpAny_pure ⟨Code.quiet_builtin _ (by decide +kernel), codeAny_builtin F.entry_type_call ?_⟩
  rw [Around.under_plain (weight_type_call_type "set" [.ref l] []) rfl]
  have h1 := F.called_set.notType
  have h2 := F.called_set.canCreate
  have hct := F.typeCall_set_1 (.ref l)
  repeat (any_goals (first | assumption | wp_step))

  refine codeAny_mono (code_set_led1 (.ref l) (E := E) (Q₁ := fun obj u => obj = .ref s.heap.objs.size ∧ u = { s with heap := s.heap.push (newSet w) }) ⟨rfl, rfl⟩) fun r u hr => ?_
  cases r with
  | error e => exact hr
  | ok fl =>
    cases fl with
    | ret obj =>
      obtain ⟨rfl, rfl⟩ := hr
      have hS : (s.heap.push (newSet w)).get? s.heap.objs.size = some (newSet w) := Heap.get?_push_size _ rfl
      have hT : Shared.TypeIs { s with heap := s.heap.push (newSet w) } (.ref s.heap.objs.size) "set" := ⟨_, hS, rfl⟩
      have hli := F.called_set.init.lookup
      have hbi := F.called_set.init.bind (.ref s.heap.objs.size)
      repeat (any_goals (first | assumption | wp_step))

      refine codeAny_mono (codeAny_call_builtin (R := wants (fun r u => r = .none ∧ ∃ h' tk L es ep t, u = { s with heap := h', toks := tk } ∧ SetK kd h' s.heap.objs.size L es ep t ∧ GotK ks ks.length L ∧
          (∀ b o, s.heap.get? b = some o → h'.get? b = some o)) E) F.called_set.init.plain F.entry_set_init (check_set_init_1 hT ?_)) fun r₂ u₂ hr₂ => ?_
      · obtain ⟨ol, hol, hcl, nl, hdl⟩ := hl
        obtain ⟨ocls, odict, odata, oslots⟩ := ol
        simp only at hcl hdl
        subst hcl; subst hdl
        have hol' : (s.heap.push (newSet w)).get? l = some { cls := .type "list", dict := odict, data := .seq items nl, slots := oslots } := Heap.get?_push_of_some _ hol
        have hsls := F.sub_list_set
        have hslf := F.sub_list_frozenset
        have hne : (Value.type "list" == Value.type "dict") = false := by decide
        have hl1 : (s.heap.push (newSet w)).IsList l items := ⟨_, hol', rfl, nl, rfl⟩
        unfold Builtin.«set.__init__» noKeywords Builtin.Frozenset.updateFrom
        generalize hPI : pyIter = PI
        wp_walk
        subst hPI

        refine wpAny_pyIter_list hl1 ?_
        refine wpAny_bind (wpAny_runValue ?_)
        have hlS : l < s.heap.objs.size := Heap.lt_size hol
        have hh3 : A.in1.in1.in1.handled = none := by simp [hh]
        have hneI : l ≠ (s.heap.push (newSet w)).objs.size := by
          rw [Heap.size_push]; exact Nat.ne_of_lt (Nat.lt_succ_of_lt hlS)
        have hSf : s.heap.objs.size ∉ [(s.heap.push (newSet w)).objs.size, l] := by
          rw [Heap.size_push]; simp only [List.mem_cons, List.mem_singleton, List.not_mem_nil, or_false, not_or]
          exact ⟨Nat.ne_of_lt (Nat.lt_succ_self _), Nat.ne_of_gt hlS⟩
        have hval : ∀ (i : Nat) (v : Value), items[i]? = some v → ∃ p, ks[i]? = some p ∧ v = .ref p.1 := fun i v hv => by
          rw [← Array.getElem?_toList, hit, List.getElem?_map, Option.map_eq_some_iff] at hv
          obtain ⟨p, hp, rfl⟩ := hv
          exact ⟨p, hp, rfl⟩
        have none_of : ∀ b, s.heap.objs.size ≤ b → s.heap.get? b = none := fun b hb => by
          cases q : s.heap.get? b with
          | none => rfl
          | some o => exact absurd (Nat.lt_of_lt_of_le (Heap.lt_size q) hb) (Nat.lt_irrefl _)
        refine loop_k cm ((Walks.list hh3 _ l hneI items).toS) s.heap.objs.size
          hSf ks hisz hfew hval s.heap hk (none_of _ (Nat.le_refl _)) (fun b hb => none_of b (by
            rw [List.mem_singleton.mp hb, Heap.size_push]
            omega)) hu (items.size - 0) 0 _ (by omega) (Nat.zero_le _)
          ⟨⟨_, Heap.get?_push_size _ rfl, rfl, rfl⟩, (hl1.push _)⟩ (fun b o e => Heap.get?_push_of_some _ (Heap.get?_push_of_some _ e)) ?hS0 ?hR
        case hS0 => exact ⟨[], #[], 0, _, setK_fresh (Heap.get?_push_of_some _ hS), GotK.none ks⟩
        case hR =>
          intro u L es ep t hm hS' g' hkp
          obtain ⟨h', g2, d', tk', os'⟩ := u
          have eg : g2 = s.gens := hm.gens
          have ed : d' = s.drawn := hm.drawn
          have eo : os' = s.os := hm.os
          subst eg; subst ed; subst eo
          show wpAny _ _ _ _ _ _
          refine wpAny_pure ?_
          show wpAny _ _ (ret Value.none) _ _ _
          rw [hisz] at g'
          exact wpAny_pure ⟨rfl, h', tk', L, es, ep, t, rfl, hS', g', hkp⟩

      · cases r₂ with
        | error e => exact hr₂
        | ok fl₂ =>
          cases fl₂ with
          | ret r =>
            obtain ⟨rfl, h', tk, L, es, ep, t, rfl, hS', g', hk'⟩ := hr₂
            repeat (any_goals (first | assumption | wp_step))
            exact h _ _ _ _ _ _ hS' g' hk'
          | _ => exact hr₂.elim
    | _ => exact hr.elim
end
/-! ### the order -/
def keyD : Key → PyData
  | .inl i => .int i
  | .inr x => .str x
def tupD (k : List Key) : PyData := .tuple (k.map keyD)
def isI : Key → Bool
  | .inl _ => true
  | .inr _ => false
theorem alike_key {a b : Key} (h : isI a = isI b) : PySem.W.alike (keyD a) (keyD b) = true := by
  cases a <;> cases b <;> first | rfl | exact Bool.noConfusion (show true = false from h) | exact Bool.noConfusion (show false = true from h)
theorem alike_keys : ∀ {x y : List Key}, x.map isI = y.map isI → PySem.W.alikeAll (x.map keyD) (y.map keyD) = true
  | [], _, _ => by simp [PySem.W.alikeAll]
  | a :: x, [], h => by simp at h
  | a :: x, b :: y, h => by
    simp only [List.map_cons, List.cons.injEq] at h
    rw [List.map_cons, List.map_cons, PySem.W.alikeAll, alike_key h.1, alike_keys h.2]
    rfl
theorem reads_keys {P : Program} {w : World} {h : Heap} {k : List Key} {vs : List Value} (q : ItemsAre (mixKind P w) k vs) : ReadsAll h vs (k.map keyD) [] := by
  induction q with
  | nil => exact .nil
  | @cons k v ks vs q _ ih =>
    have r : Reads h v (keyD k) [] := by
      rcases keyIs_shape q with ⟨i, t, rfl, rfl⟩ | ⟨x, t, rfl, rfl⟩
      · exact .int i t
      · exact .str x t
    exact .cons r ih
theorem reads_tup {P : Program} {w : World} {h : Heap} {k : List Key} {a : Addr} (q : IsTupleKey (mixKind P w) h k a) : Reads h (.ref a) (tupD k) [] := by
  obtain ⟨o, its, n, ho, hc, hd, hi⟩ := q
  exact .tuple ho hc hd (reads_keys hi)
theorem depth_keys : ∀ k : List Key, PyData.depthAll (k.map keyD) = 0
  | [] => by simp [PyData.depthAll]
  | a :: k => by
    rw [List.map_cons, PyData.depthAll, depth_keys k]
    cases a <;> simp [keyD, PyData.depth]
def klt : Key → Key → Bool
  | .inl a, .inl b => decide (a < b)
  | .inr a, .inr b => decide (ltS a b)
  | _, _ => false
/-- two tuples in Python's order (the same kinds of parts) -/
def tlt : List Key → List Key → Bool
  | [], [] => false
  | [], _ :: _ => true
  | _ :: _, [] => false
  | a :: x, b :: y => if a = b then tlt x y else klt a b
theorem klt_data {a b : Key} (h : isI a = isI b) : PySem.W.dataLt (keyD a) (keyD b) = klt a b := by
  cases a <;> cases b <;> first | exact Bool.noConfusion (show true = false from h) | exact Bool.noConfusion (show false = true from h) | exact PySem.W.dataLt_int _ _ | exact PySem.W.dataLt_str _ _
theorem eqv_key {a b : Key} : PyData.eqv (keyD a) (keyD b) = decide (a = b) := by
  cases a <;> cases b <;> simp [keyD, PyData.eqv] <;> rfl
theorem tlt_data0 : ∀ {x y : List Key}, x.map isI = y.map isI → PySem.W.rowLt (x.map keyD) (y.map keyD) = tlt x y
  | [], [], _ => (PySem.W.dataLt_tuple [] []).symm.trans (PySem.W.dataLt_self _)
  | [], b :: y, h => by simp at h
  | a :: x, [], h => by simp at h
  | a :: x, b :: y, h => by
    simp only [List.map_cons, List.cons.injEq] at h
    unfold PySem.W.rowLt tlt
    rw [List.map_cons, List.map_cons, PySem.W.dataLt_cons (alike_key h.1), eqv_key, klt_data h.1]
    by_cases e : a = b
    · rw [decide_eq_true e, if_pos rfl, if_pos e]; exact tlt_data0 h.2
    · rw [decide_eq_false e, if_neg Bool.false_ne_true, if_neg e]
theorem tlt_data {x y : List Key} (h : x.map isI = y.map isI) : PySem.W.dataLt (tupD x) (tupD y) = tlt x y := (PySem.W.dataLt_tuple _ _).trans (tlt_data0 h)
theorem klt_asym {a b : Key} (h : klt a b = true) : klt b a = false := by
  cases a <;> cases b <;> simp only [klt, decide_eq_true_eq, decide_eq_false_iff_not] at h ⊢
  · omega
  · exact fun g => ltS_irrefl _ (ltS_trans h g)
theorem klt_total {a b : Key} (h : isI a = isI b) (n : a ≠ b) (g : klt a b = false) : klt b a = true := by
  cases a <;> cases b <;> first | exact Bool.noConfusion (show true = false from h) | exact Bool.noConfusion (show false = true from h) | skip
  · simp only [klt, decide_eq_true_eq, decide_eq_false_iff_not] at g ⊢
    have : ¬ (_ : Int) = _ := fun e => n (congrArg Sum.inl e)
    omega
  · simp only [klt, decide_eq_true_eq, decide_eq_false_iff_not] at g ⊢
    exact ltS_total g fun e => n (congrArg Sum.inr e)
theorem klt_trans {a b c : Key} (h : klt a b = true) (g : klt b c = true) : klt a c = true := by
  cases a <;> cases b <;> cases c <;> simp only [klt, decide_eq_true_eq, Bool.false_eq_true] at h g ⊢
  · omega
  · exact ltS_trans h g
theorem klt_irrefl (a : Key) : klt a a = false := by
  cases a
  · simp [klt]
  · simp [klt, ltS_irrefl]
theorem tlt_irrefl : ∀ x : List Key, tlt x x = false
  | [] => rfl
  | a :: x => by unfold tlt; rw [if_pos rfl]; exact tlt_irrefl x
theorem tlt_trans : ∀ {x y z : List Key}, tlt x y = true → tlt y z = true → tlt x z = true
  | [], [], _, h, _ => by simp [tlt] at h
  | [], _ :: _, [], _, g => by simp [tlt] at g
  | [], _ :: _, _ :: _, _, _ => rfl
  | _ :: _, [], _, h, _ => by simp [tlt] at h
  | _ :: _, _ :: _, [], _, g => by simp [tlt] at g
  | a :: x, b :: y, c :: z, h, g => by
    unfold tlt at h g ⊢
    split at h
    · rename_i e; subst e
      split at g
      · rename_i e; subst e; rw [if_pos rfl]; exact tlt_trans h g
      · rename_i e; rw [if_neg e]; exact g
    · rename_i e
      split at g
      · rename_i e2; subst e2; rw [if_neg e]; exact h
      · rename_i e2
        have k := klt_trans h g
        by_cases e3 : a = c
        · subst e3; rw [klt_asym h] at g; exact nomatch g
        · rw [if_neg e3]; exact k
theorem tlt_asym {x y : List Key} (h : tlt x y = true) : tlt y x = false := by
  cases q : tlt y x with
  | false => rfl
  | true => exact absurd (tlt_trans h q) (by rw [tlt_irrefl]; exact Bool.false_ne_true)
theorem tlt_total : ∀ {x y : List Key}, x.map isI = y.map isI → x ≠ y → tlt x y = false → tlt y x = true
  | [], [], _, n, _ => absurd rfl n
  | [], b :: y, h, _, _ => by simp at h
  | a :: x, [], h, _, _ => by simp at h
  | a :: x, b :: y, h, n, g => by
    simp only [List.map_cons, List.cons.injEq] at h
    unfold tlt at g ⊢
    split at g
    · rename_i e; subst e; rw [if_pos rfl]; exact tlt_total h.2 (fun e => n (by rw [e])) g
    · rename_i e; rw [if_neg (fun z => e z.symm)]; exact klt_total h.1 e g
/-- the members in Python's order, each once -/
def insK (x : List Key) : List (List Key) → List (List Key)
  | [] => [x]
  | y :: r => if tlt x y = true then x :: y :: r else if x = y then y :: r else y :: insK x r
def tsort : List (List Key) → List (List Key)
  | [] => []
  | x :: r => insK x (tsort r)
theorem mem_insK {x k : List Key} : ∀ {l : List (List Key)}, k ∈ insK x l ↔ k = x ∨ k ∈ l
  | [] => by simp [insK]
  | y :: r => by
    unfold insK
    split
    · simp
    · split
      · rename_i h; subst h; simp
      · simp only [List.mem_cons, mem_insK (l := r)]
        constructor <;> (intro h; rcases h with h | h | h <;> simp [h])
theorem mem_tsort {k : List Key} : ∀ {l : List (List Key)}, k ∈ tsort l ↔ k ∈ l
  | [] => by simp [tsort]
  | x :: r => by
    unfold tsort
    rw [mem_insK, mem_tsort (l := r), List.mem_cons]
abbrev TLt (x y : List Key) : Prop := tlt x y = true
theorem insK_sorted {x : List Key} {g : List Bool} (hx : x.map isI = g) : ∀ {l : List (List Key)}, (∀ y ∈ l, y.map isI = g) → l.Pairwise TLt → (insK x l).Pairwise TLt
  | [], _, _ => by simp [insK]
  | y :: r, hg, h => by
    obtain ⟨h1, h2⟩ := List.pairwise_cons.mp h
    unfold insK
    split
    · rename_i q
      refine List.pairwise_cons.mpr ⟨fun z hz => ?_, h⟩
      rcases List.mem_cons.mp hz with e | e
      · rw [e]; exact q
      · exact tlt_trans q (h1 z e)
    · rename_i q
      split
      · exact h
      · rename_i n
        have hlt : TLt y x := tlt_total (hx.trans (hg y List.mem_cons_self).symm) n (by simpa using q)
        refine List.pairwise_cons.mpr ⟨fun z hz => ?_, insK_sorted hx (fun u hu => hg u (List.mem_cons_of_mem _ hu)) h2⟩
        rcases mem_insK.mp hz with e | e
        · rw [e]; exact hlt
        · exact h1 z e
theorem tsort_sorted {g : List Bool} : ∀ {l : List (List Key)}, (∀ y ∈ l, y.map isI = g) → (tsort l).Pairwise TLt
  | [], _ => by simp [tsort]
  | x :: r, h => insK_sorted (h x List.mem_cons_self) (fun y hy => h y (List.mem_cons_of_mem _ (mem_tsort.mp hy))) (tsort_sorted fun y hy => h y (List.mem_cons_of_mem _ hy))
theorem tlt_ext : ∀ {l m : List (List Key)}, l.Pairwise TLt → m.Pairwise TLt → (∀ k, k ∈ l ↔ k ∈ m) → l = m
  | [], [], _, _, _ => rfl
  | [], y :: m, _, _, h => absurd ((h y).mpr List.mem_cons_self) (by simp)
  | x :: l, [], _, _, h => absurd ((h x).mp List.mem_cons_self) (by simp)
  | x :: l, y :: m, hl, hm, h => by
    obtain ⟨a1, a2⟩ := List.pairwise_cons.mp hl
    obtain ⟨b1, b2⟩ := List.pairwise_cons.mp hm
    have no : ∀ {u v}, TLt u v → ¬ TLt v u := fun p q => by rw [TLt, tlt_asym p] at q; exact nomatch q
    have irr : ∀ {u}, ¬ TLt u u := fun p => no p p
    have e : x = y := by
      rcases List.mem_cons.mp ((h x).mp List.mem_cons_self) with q | q
      · exact q
      · rcases List.mem_cons.mp ((h y).mpr List.mem_cons_self) with z | z
        · exact z.symm
        · exact absurd (b1 x q) (no (a1 y z))
    subst e
    rw [tlt_ext a2 b2 fun k => ⟨fun hk => ?_, fun hk => ?_⟩]
    · rcases List.mem_cons.mp ((h k).mp (List.mem_cons_of_mem _ hk)) with q | q
      · rw [q] at hk; exact absurd (a1 x hk) irr
      · exact q
    · rcases List.mem_cons.mp ((h k).mpr (List.mem_cons_of_mem _ hk)) with q | q
      · rw [q] at hk; exact absurd (b1 x hk) irr
      · exact q
end DL
end

section
set_option Elab.async false
set_option linter.all false
set_option maxRecDepth 100000
set_option maxHeartbeats 4000000
/-! DL, part 33: sorted(set(tuples)). -/
namespace DL
open PySem PySem.Spec PyProof.Rows L2 LamX NdefX
theorem perm_pre {α β : Type} {f : α → β} : ∀ {us vs : List β}, us.Perm vs → ∀ L : List α, vs = L.map f → ∃ L1 : List α, us = L1.map f ∧ L1.Perm L := by
  intro us vs hp
  induction hp with
  | nil => exact fun L e => ⟨[], rfl, by rw [List.map_eq_nil_iff.mp e.symm]⟩
  | @cons x l1 l2 _ ih =>
    intro L e
    cases L with
    | nil => simp at e
    | cons y L =>
      simp only [List.map_cons, List.cons.injEq] at e
      obtain ⟨L1, h1, h2⟩ := ih L e.2
      exact ⟨y :: L1, by rw [List.map_cons, h1, e.1], h2.cons y⟩
  | swap x y l =>
    intro L e
    cases L with
    | nil => simp at e
    | cons a L =>
      cases L with
      | nil => simp at e
      | cons b L =>
        simp only [List.map_cons, List.cons.injEq] at e
        exact ⟨b :: a :: L, by simp only [List.map_cons, List.cons.injEq]; exact ⟨e.2.1, e.1, e.2.2⟩, List.Perm.swap _ _ _⟩
  | trans _ _ ih1 ih2 =>
    intro L e
    obtain ⟨L2, b1, b2⟩ := ih2 L e
    obtain ⟨L1, a1, a2⟩ := ih1 L2 b1
    exact ⟨L1, a1, a2.trans b2⟩
theorem dle_trans {β : Type} {enc : β → PyData} (a b c : β) (h : PySem.W.dataLe false enc a b = true) (g : PySem.W.dataLe false enc b c = true) : PySem.W.dataLe false enc a c = true := by
  rw [PySem.W.dataLe_eq] at h g ⊢
  simp only [cond, Bool.not_eq_true'] at h g ⊢
  cases q : PySem.W.dataLt (enc c) (enc a) with
  | false => rfl
  | true =>
    rcases PyProof.Rows.lex_negTrans _ _ _ q with z | z
    · rw [show PySem.W.dataLt (enc c) (enc b) = true from z] at g; exact nomatch g
    · rw [show PySem.W.dataLt (enc b) (enc a) = true from z] at h; exact nomatch h
theorem dle_total {β : Type} {enc : β → PyData} (a b : β) : (PySem.W.dataLe false enc a b || PySem.W.dataLe false enc b a) = true := by
  rw [PySem.W.dataLe_eq]
  simp only [cond, Bool.or_eq_true, Bool.not_eq_true']
  cases q : PySem.W.dataLt (enc b) (enc a) with
  | false => exact .inl rfl
  | true =>
    refine .inr ?_
    cases z : PySem.W.dataLt (enc a) (enc b) with
    | false => rfl
    | true => exact absurd (PyProof.Rows.lex_trans _ _ _ q z) (by rw [PyProof.Rows.lex_irrefl]; exact Bool.false_ne_true)
section
variable {P : Program} {w : World} {A : Around} {E : Value → Shared → Prop} {s : Shared}
theorem each_refs {vs : List Value} {L : List (Addr × List Key)} (h : PySem.W.EachIs (fun v q => v = Value.ref q.1) vs L) : vs = L.map fun q => Value.ref q.1 := by
  induction h with
  | nil => rfl
  | cons e _ ih => rw [List.map_cons, e, ih]
theorem each_of {R : Value → Addr × List Key → Prop} : ∀ {L : List (Addr × List Key)}, (∀ q ∈ L, R (.ref q.1) q) → PySem.W.EachIs R (L.map fun q => Value.ref q.1) L
  | [], _ => .nil
  | q :: L, h => .cons (h q List.mem_cons_self) (each_of fun r hr => h r (List.mem_cons_of_mem _ hr))
theorem sorted_set_k {a : Addr} {L : List (Addr × List Key)} {es : Array (Int × Value)} {ep : Nat} {t : SetTable} {Q : Value → Shared → Prop} (R : SetK (mixKind P w) s.heap a L es ep t) (hh : A.handled = none) (hu : A.units + 64 < cLine)
    {g : List Bool} (hg : ∀ p ∈ L, p.2.map isI = g) (hne : g ≠ [])
    (hQ : ∀ s' p (out : Array Value) (c : Nat) (L' : List (Addr × List Key)), (∀ b o, s.heap.get? b = some o → s'.heap.get? b = some o) → s'.gens = s.gens → s'.os = s.os → s.heap.objs.size ≤ p →
      s'.heap.get? p = some (seqObj "list" out c) → out.toList = L'.map (fun q => Value.ref q.1) → L'.Perm L → L'.Pairwise (fun q r => TLt q.2 r.2) → Q (.ref p) s') :
    wpAny (model P w) A (call (.builtin "sorted") [.ref a]) Q E s := by
  obtain ⟨o, ho, hex, hd⟩ := R.obj
  have hsz := rowsK_len R.rows
  have hfew := R.few
  refine Calls.call_function_entry kind_sorted plain_sorted entry_sorted (args_sorted1 _) ?_
  unfold Builtin.«sorted»
  refine wpAny_bind (m := checkCount "sorted" 1 1 _) (wpAny_pure ?_)
  refine wpAny_bind (collect_set (A := A.in1) hh ⟨o, ho, hex.1, hd⟩ R.fits (by unfold scanBound; omega) R.tab.ris R.led fun s1 vs k1 hz g1 o1 pm => ?_)
  have hes : es.toList.map (·.2) = L.map fun q => Value.ref q.1 := by
    rw [R.rows, rowsK, List.map_map]; rfl
  rw [hes] at pm
  obtain ⟨L1, rfl, p1⟩ := perm_pre pm L rfl
  have hlen : L1.length < 64 := by rw [p1.length_eq]; exact hfew
  refine wpAny_bind (wpAny_newList ?_ (by rw [List.length_map, sizeLine_eq]; omega))
  have hoL : (s1.heap.push (seqObj "list" (L1.map fun q => Value.ref q.1).toArray 0)).get? s1.heap.objs.size = some (seqObj "list" (L1.map fun q => Value.ref q.1).toArray 0) := Heap.get?_push_size _ rfl
  have tk : ∀ q ∈ L1, Reads (s1.heap.push (seqObj "list" (L1.map fun q => Value.ref q.1).toArray 0)) (.ref q.1) (tupD q.2) [] := fun q hq =>
    reads_tup (P := P) (w := w) (tk_keep (R.tup q (p1.mem_iff.mp hq)) fun b u e => Heap.get?_push_of_some _ (k1 b u e))
  have hg1 : ∀ q ∈ L1, q.2.map isI = g := fun q hq => hg q (p1.mem_iff.mp hq)
  refine wpAny_bind (wpAny_holding (PySem.W.list_sort_data (s := { s1 with heap := s1.heap.push (seqObj "list" (L1.map fun q => Value.ref q.1).toArray 0) }) (R := fun v q => v = Value.ref q.1) (bs := L1) (enc := fun q => tupD q.2) hoL
    (each_of fun q _ => rfl) (each_of fun q hq => ⟨[], tk q hq, by simp⟩) ?_ ?_ (by rw [sizeLine_eq]; omega) ?_ fun out a1 a2 => ?_))
  · intro d hd d' hd'
    obtain ⟨q, hq, rfl⟩ := List.mem_map.mp hd
    obtain ⟨r, hr, rfl⟩ := List.mem_map.mp hd'
    exact alike_keys ((hg1 q hq).trans (hg1 r hr).symm)
  · refine .inl fun d hd => ?_
    obtain ⟨q, hq, rfl⟩ := List.mem_map.mp hd
    have e := hg1 q hq
    cases z : q.2 with
    | nil => rw [z] at e; exact absurd e.symm hne
    | cons x r =>
      exact ⟨keyD x, r.map keyD, rfl⟩
  · intro q _
    have dq : (tupD q.2).depth ≤ 1 := by simp [tupD, PyData.depth, depth_keys]
    have : A.in1.units ≤ A.units + 8 := by first | exact Nat.le_add_right _ _ | (show A.units + _ ≤ _; omega)
    omega
  · obtain ⟨c, hc⟩ := sortedHeap_at (vs := L1.map fun q => Value.ref q.1) (out := out.toArray) hoL
    have e' := each_refs a2
    have pL := (List.mergeSort_perm L1 (PySem.W.dataLe false fun q : Addr × List Key => tupD q.2)).trans p1
    have srt := List.pairwise_mergeSort (le := PySem.W.dataLe false fun q : Addr × List Key => tupD q.2) dle_trans dle_total L1
    generalize L1.mergeSort (PySem.W.dataLe false fun q => tupD q.2) = L' at e' pL srt
    have nd : (L'.map (·.2)).Nodup := (pL.map (·.2)).nodup_iff.mpr R.nd
    have pw : L'.Pairwise (fun q r => TLt q.2 r.2) := by
      refine List.Pairwise.imp_of_mem (fun {q r} hq hr h => ?_) (List.pairwise_iff_forall_sublist.mpr fun {q r} hs => (⟨List.pairwise_iff_forall_sublist.mp srt hs, List.pairwise_iff_forall_sublist.mp (List.pairwise_map.mp nd) hs⟩ : PySem.W.dataLe false (fun q : Addr × List Key => tupD q.2) q r = true ∧ q.2 ≠ r.2))
      have eg : q.2.map isI = r.2.map isI := (hg q (pL.mem_iff.mp hq)).trans (hg r (pL.mem_iff.mp hr)).symm
      have h1 := h.1
      rw [PySem.W.dataLe_eq] at h1
      simp only [cond, Bool.not_eq_true'] at h1
      rw [tlt_data eg.symm] at h1
      exact tlt_total eg.symm (fun e => h.2 e.symm) h1
    refine wpAny_pure ⟨_, rfl, hQ _ s1.heap.objs.size out.toArray c L' (fun b u e => ?_) g1 o1 hz hc (by simpa using e') pL pw⟩
    have q := k1 b u e
    have hlt := Heap.lt_size q
    show (sortedHeap (s1.heap.push (seqObj "list" (L1.map fun q => Value.ref q.1).toArray 0)) s1.heap.objs.size (L1.map fun q => Value.ref q.1) out.toArray).get? b = some u
    rw [sortedHeap_old (Nat.ne_of_lt hlt) (by rw [size_push']; exact Nat.lt_succ_of_lt hlt)]
    exact Heap.get?_push_of_some _ q
end
/-- the set at a, but for the tuples themselves -/
structure SetB (P : Program) (w : World) (h : Heap) (a : Addr) (L : List (Addr × List Key)) : Prop where
  ex : ∃ (es : Array (Int × Value)) (ep : Nat) (t : SetTable), (∃ o, h.get? a = some o ∧ o.ExactSet ∧ o.data = .set es ep t) ∧ es.toList = rowsK (mixKind P w) L ∧ TabOk t (L.map (tkH (mixKind P w))) ∧ (L.map (·.2)).Nodup ∧
    (w.params.followText "set-order" = true ∨ t.led = true) ∧ L.length * 5 < t.mask * 3 ∧ L.length < 64
def SetBO (P : Program) (w : World) (a : Addr) (L : List (Addr × List Key)) : HO := .ext fun h => SetB P w h a L
theorem SetK.base {P : Program} {w : World} {h : Heap} {a : Addr} {L : List (Addr × List Key)} {es : Array (Int × Value)} {ep : Nat} {t : SetTable} (R : SetK (mixKind P w) h a L es ep t) : SetB P w h a L :=
  ⟨es, ep, t, R.obj, R.rows, R.tab, R.nd, R.led, R.room, R.few⟩
theorem SetB.full {P : Program} {w : World} {h : Heap} {a : Addr} {L : List (Addr × List Key)} (R : SetB P w h a L) (ht : ∀ p ∈ L, IsTupleKey (mixKind P w) h p.2 p.1) : ∃ es ep t, SetK (mixKind P w) h a L es ep t := by
  obtain ⟨es, ep, t, h1, h2, h3, h4, h5, h6, h7⟩ := R.ex
  exact ⟨es, ep, t, h1, h2, h3, h4, ht, h5, h6, h7⟩
theorem setB_new {P : Program} {w : World} {H : Hp} {h : Heap} {a : Addr} {L : List (Addr × List Key)} (R : SetB P w h a L) : ObjOk P w H h a (SetBO P w a L) := by
  have ⟨es, ep, t, ⟨o, ho, r⟩, q⟩ := R.ex
  refine ⟨R, ⟨o, ho⟩, fun h1 h2 p k => ?_⟩
  have ⟨es', ep', t', ⟨o', ho', r'⟩, q'⟩ := SetB.ex p
  exact ⟨es', ep', t', ⟨o', k o' ho', r'⟩, q'⟩
def keyV : Key → V
  | .inl i => .int i
  | .inr x => .str x
theorem items_keyV {P : Program} {w : World} : ∀ {k : List Key} {us : List Value}, Vals (k.map keyV) us → ItemsAre (mixKind P w) k us
  | [], _, .nil => .nil
  | .inl n :: k, _, .cons r t => by
    obtain ⟨tk, rfl⟩ := r
    exact .cons (keyIs_int n tk) (items_keyV t)
  | .inr x :: k, _, .cons r t => by
    obtain ⟨tk, rfl⟩ := r
    exact .cons (keyIs_str x tk) (items_keyV t)
theorem refs_vals : ∀ {ks : List (Addr × List Key)} {us : List Value}, Vals (ks.map fun p => V.ref p.1) us → us = ks.map fun p => Value.ref p.1
  | [], _, .nil => rfl
  | p :: ks, _, .cons r t => by cases r; rw [refs_vals t]; rfl
theorem vals_refs : ∀ (ks : List (Addr × List Key)), Vals (ks.map fun p => V.ref p.1) (ks.map fun p => Value.ref p.1)
  | [] => .nil
  | p :: ks => .cons rfl (vals_refs ks)
section
variable {X : Cx}
theorem inv_tk {pins : List (Addr × Obj)} {σ : L2.St} {H : Hp} {s : Shared} {b : Addr} {k : List Key} (I : Inv X pins σ H s) (h : SqT X.K H b (k.map keyV)) : IsTupleKey (mixKind X.prog X.w) s.heap k b := by
  obtain ⟨its, r, ⟨o, ho, hc, n, hd⟩, _⟩ := I.tuple h
  exact ⟨o, its.toArray, n, ho, hc, hd, by simpa using items_keyV r⟩
def rSetB (K : PySem.W.Frag) (P : Program) (w : World) : List V → Hp → VK → Prop := fun xs H Q => ∃ (l : Addr) (ks : List (Addr × List Key)), xs = [V.ref l] ∧ SqL K H l (ks.map fun p => V.ref p.1) ∧ (∀ p ∈ ks, SqT K H p.1 (p.2.map keyV)) ∧ ks.length < 64 ∧
  ∀ a L, H a = none → (∀ p ∈ L, p ∈ ks) → (∀ p ∈ ks, p.2 ∈ L.map (·.2)) → Q (.ref a) (upd H a (SetBO P w a L))
theorem cr_setB (hc : X.calm = true) (hu : X.A.units + 64 < cLine) : CallR X (.type "set") (rSetB X.K X.prog X.w) := by
  intro pins s σ H xs us Q I r h
  obtain ⟨l, ks, rfl, hl, hk, hf, q⟩ := h
  rw [Vals.ref1 r]
  obtain ⟨its, rv, pl, hz⟩ := I.list hl
  have hn : H s.heap.objs.size = none := I.hok.fresh (Nat.le_refl _)
  refine call_set_k (P := X.prog) (w := X.w) calm_mix ks (I.ok.hd hc) pl.isList (by simpa using refs_vals rv) (fun p hp => inv_tk I (hk p hp)) hf (by omega) fun h' tk L es ep t R g k => ?_
  exact ⟨.ref s.heap.objs.size, upd H s.heap.objs.size (SetBO X.prog X.w s.heap.objs.size L), I.laid (t' := tk) k (Nat.le_refl _) (setB_new R.base), rfl, q _ L hn (fun p hp => List.mem_of_mem_take (g.from_ p hp)) fun p hp => g.whole p (by rw [List.take_length]; exact hp)⟩
def rSortB (K : PySem.W.Frag) (P : Program) (w : World) : List V → Hp → VK → Prop := fun vs H Q => ∃ (a : Addr) (L : List (Addr × List Key)) (g : List Bool), vs = [V.ref a] ∧ H a = some (SetBO P w a L) ∧ (∀ p ∈ L, SqT K H p.1 (p.2.map keyV)) ∧ g ≠ [] ∧ (∀ p ∈ L, p.2.map isI = g) ∧
  ∀ (L' : List (Addr × List Key)) (p : Addr), L'.Perm L → L'.Pairwise (fun q r => TLt q.2 r.2) → H p = none → Q (.ref p) (upd H p (.lst (L'.map fun q => V.ref q.1)))
theorem cr_sortB (hc : X.calm = true) (hu : X.A.units + 64 < cLine) : CallR X (.builtin "sorted") (rSortB X.K X.prog X.w) := by
  intro pins s σ H vs us Q I r h
  obtain ⟨a, L, g, rfl, ha, hk, hn0, hg, q⟩ := h
  have R0 : SetB X.prog X.w s.heap a L := (I.hok a _ ha).1
  obtain ⟨es, ep, t, R⟩ := R0.full fun p hp => inv_tk I (hk p hp)
  rw [Vals.ref1 r]
  refine sorted_set_k R (I.ok.hd hc) hu hg hn0 fun s' p out c L' k gg o hp hat hout pm pw => ?_
  have hlen : (L'.map fun q => V.ref q.1).length ≤ sizeLine := by
    have := R.few
    rw [List.length_map, pm.length_eq, sizeLine_eq]; omega
  have hn : H p = none := I.hok.fresh hp
  have hv : Vals (L'.map fun q => V.ref q.1) out.toList := by rw [hout]; exact vals_refs L'
  have J : Inv X pins σ (upd H p (.lst (L'.map fun q => V.ref q.1))) { s with heap := s'.heap, gens := s'.gens, drawn := s'.drawn, toks := s'.toks } :=
    I.call (ch := []) (Un.laid k hp hn) (I.hok.laid k hp ⟨hlen, out.toList, c, hv, hat⟩) (by rw [gg]; exact I.bare) (fun _ z => nomatch z)
  have e : s' = { s with heap := s'.heap, gens := s'.gens, drawn := s'.drawn, toks := s'.toks } := by
    cases s'
    cases s
    cases o
    rfl
  rw [e]
  exact ⟨.ref p, _, J, rfl, q L' p pm pw hn⟩
end
/-! ### on data -/
def keyT : Key → D
  | .inl i => .int i
  | .inr x => .str x
def keyOf : D → Option Key
  | .int i => some (.inl i)
  | .str x => some (.inr x)
  | _ => none
def keysOf : List D → Option (List Key)
  | [] => some []
  | d :: ds => (keyOf d).bind fun k => (keysOf ds).map (k :: ·)
def tkOf : D → Option (List Key)
  | .tup ds => keysOf ds
  | _ => none
def tksOf : List D → Option (List (List Key))
  | [] => some []
  | d :: ds => (tkOf d).bind fun k => (tksOf ds).map (k :: ·)
def tkT (k : List Key) : D := .tup (k.map keyT)
section
variable {M : Mp} {φ ψ : List Addr} {H : Hp}
theorem keys_rep : ∀ {ds : List D} {vs : List V} {k : List Key}, keysOf ds = some k → RepL M φ ψ H ds vs → vs = k.map keyV
  | [], vs, k, h, r => by
    simp only [keysOf, Option.some.injEq] at h
    subst h
    simp only [RepL] at r
    subst r
    rfl
  | d :: ds, vs, k, h, r => by
    simp only [keysOf, Option.bind_eq_some_iff, Option.map_eq_some_iff] at h
    obtain ⟨a, h1, l, h2, rfl⟩ := h
    simp only [RepL] at r
    obtain ⟨x, xs, rfl, r1, r2⟩ := r
    rw [List.map_cons, ← keys_rep h2 r2]
    cases d <;> simp only [keyOf, Option.some.injEq, reduceCtorEq] at h1
    all_goals (subst h1; simp only [Rep] at r1; rw [r1]; rfl)
theorem rep_keys : ∀ k : List Key, RepL M φ ψ H (k.map keyT) (k.map keyV)
  | [] => .nil
  | .inl i :: k => .cons (by simp only [keyT, Rep, keyV]) (rep_keys k)
  | .inr x :: k => .cons (by simp only [keyT, Rep, keyV]) (rep_keys k)
theorem tks_rep : ∀ {ds : List D} {vs : List V} {k : List (List Key)}, tksOf ds = some k → RepL M φ ψ H ds vs → ∃ L : List (Addr × List Key), vs = (L.map fun p => V.ref p.1) ∧ L.map (·.2) = k ∧ ∀ p ∈ L, SqT M.K H p.1 (p.2.map keyV)
  | [], vs, k, h, r => by
    simp only [tksOf, Option.some.injEq] at h
    subst h
    simp only [RepL] at r
    subst r
    exact ⟨[], rfl, rfl, fun _ hp => by cases hp⟩
  | d :: ds, vs, k, h, r => by
    simp only [tksOf, Option.bind_eq_some_iff, Option.map_eq_some_iff] at h
    obtain ⟨a, h1, l, h2, rfl⟩ := h
    simp only [RepL] at r
    obtain ⟨x, xs, rfl, r1, r2⟩ := r
    obtain ⟨L, e1, e2, e3⟩ := tks_rep h2 r2
    cases d <;> simp only [tkOf, reduceCtorEq] at h1
    rename_i es
    simp only [Rep] at r1
    obtain ⟨b, ys, rfl, q1, q2⟩ := r1
    rw [keys_rep h1 q2] at q1
    refine ⟨(b, a) :: L, by rw [List.map_cons, e1], by rw [List.map_cons, e2], fun p hp => ?_⟩
    rcases List.mem_cons.mp hp with z | z
    · rw [z]; exact q1
    · exact e3 p z
theorem rep_tks : ∀ {L : List (Addr × List Key)}, (∀ p ∈ L, SqT M.K H p.1 (p.2.map keyV)) → RepL M φ ψ H ((L.map (·.2)).map tkT) (L.map fun p => V.ref p.1)
  | [], _ => .nil
  | p :: L, h => .cons (by simp only [tkT, Rep]; exact ⟨p.1, _, rfl, h p List.mem_cons_self, rep_keys _⟩) (rep_tks fun q hq => h q (List.mem_cons_of_mem _ hq))
end
/-- tuples all of one kind, and one part at least -/
def oneSig : List (List Key) → Bool
  | [] => true
  | k :: ks => (!k.isEmpty) && ks.all fun x => x.map isI == k.map isI
theorem oneSig_ok : ∀ {ks : List (List Key)}, oneSig ks = true → ∃ g : List Bool, g ≠ [] ∧ ∀ k ∈ ks, k.map isI = g
  | [], _ => ⟨[true], by simp, fun _ h => by cases h⟩
  | k :: ks, h => by
    unfold oneSig at h
    rw [Bool.and_eq_true, List.all_eq_true] at h
    refine ⟨k.map isI, by simpa using h.1, fun x hx => ?_⟩
    rcases List.mem_cons.mp hx with z | z
    · rw [z]
    · exact eq_of_beq (h.2 x z)
/-- sorted(set(e)) -/
def soxM (m : En → Sto → R D) : En → Sto → R (List D) := fun env S => (m env S).bind fun d S1 => match asL S1 d with
  | some ds => (match tksOf ds with
    | some ks => if oneSig ks = true ∧ ks.length < 64 then .ok ((tsort ks).map tkT) S1 else .stuck
    | none => .stuck)
  | none => .stuck
section
variable {X : Cx} {M : Mp} {W : WX} {p p2 pos pos2 : Pos} {e : Expr} {m : En → Sto → R D}
theorem df_sox (hc : X.calm = true) (hu : X.A.units + 64 < cLine) (hm : X.mg "sorted" = none) (hm2 : X.mg "set" = none) (ha : DE X M W e m) (hK : X.K = M.K := by rfl) (hg : Gl X "sorted" := by rfl) (hg2 : Gl X "set" := by rfl)
    (he : starEach [e] X.env = (false, eval e X.env) :: starEach [] X.env := by rfl) (he2 : starEach [.Call (.Name "set" p2) [e] [] pos2] X.env = (false, eval (.Call (.Name "set" p2) [e] [] pos2) X.env) :: starEach [] X.env := by rfl)
    (hpl : (backTo pos (starEach [] X.env)).any (·.1) = false := by rfl) (hpl2 : (backTo pos2 (starEach [] X.env)).any (·.1) = false := by rfl) :
    DF X M W (.Call (.Name "sorted" p) [.Call (.Name "set" p2) [e] [] pos2] [] pos) (soxM m) := by
  refine pe_imp (pe_callB (cr_sortB hc hu) hg hm (by decide +kernel) (pa_cons (pe_callTy (cr_setB hc hu) hg2 hm2 (by decide +kernel) (pa_cons ha pa_nil he) (by decide) (by decide) he hpl2) pa_nil he2) (by decide) (by decide) he2 hpl) fun σ H Q h => ?_
  refine rd_bindD h _ fun env φ1 ψ d v S1 H1 er sr r p => ?_
  split at p
  · rename_i ds e1
    split at p
    · rename_i ks e2
      split at p
      · rename_i hk
        obtain ⟨a, xs, rfl, h1, h2⟩ := at_L sr r e1
        obtain ⟨L, rfl, hL, hs⟩ := tks_rep e2 h2
        subst hL
        obtain ⟨g, g1, g2⟩ := oneSig_ok hk.1
        refine ⟨a, L, rfl, by rw [hK]; exact h1, fun p hp => by rw [hK]; exact hs p hp, by simpa using hk.2, fun b L1 hb sub all => ?_⟩
        have g3 : ∀ p ∈ L1, p.2.map isI = g := fun p hp => g2 _ (List.mem_map.mpr ⟨p, sub p hp, rfl⟩)
        obtain ⟨eb, sb⟩ := sr.laid (o := SetBO X.prog X.w b L1) hb
        have hs2 : ∀ p ∈ L1, SqT M.K (upd H1 b (SetBO X.prog X.w b L1)) p.1 (p.2.map keyV) := fun p hp => eb.sqT (hs p (sub p hp))
        refine ⟨b, L1, g, rfl, upd_same, fun p hp => by rw [hK]; exact hs2 p hp, g1, g3, fun L2 q pm pw hq => ?_⟩
        have e3 : L2.map (·.2) = tsort (L.map (·.2)) := by
          refine tlt_ext (List.pairwise_map.mpr pw) (tsort_sorted g2) fun k => ?_
          rw [mem_tsort, (pm.map (·.2)).mem_iff]
          constructor
          · intro h
            obtain ⟨p, hp, rfl⟩ := List.mem_map.mp h
            exact List.mem_map.mpr ⟨p, sub p hp, rfl⟩
          · intro h
            obtain ⟨p, hp, rfl⟩ := List.mem_map.mp h
            exact all p hp
        rw [← e3] at p
        exact (p.ext eb).newF sb hq (rep_tks fun z hz => hs2 z (pm.mem_iff.mp hz))
      · exact p.elim
    · exact p.elim
  · exact p.elim
end
end DL
end

section
set_option Elab.async false
set_option linter.all false
set_option maxRecDepth 100000
set_option maxHeartbeats 4000000
/-! DL, part 34: text.join, text.split, text.index, int(text), text * int, tuples in Python's order. -/
namespace DL
open PySem PySem.Spec PyProof.Rows L2 LamX NdefX
section
variable {X : Cx} {M : Mp} {W : WX} {o a : Expr} {mo ma : En → Sto → R D} {apos pos : Pos}
/-- a method of a text with one argument -/
def sm1 (g : Sto → Str → D → R D) (mo ma : En → Sto → R D) : En → Sto → R D := fun env S => (mo env S).bind fun o S1 => match o with
  | .str z => (ma env S1).bind fun d S2 => g S2 z d
  | _ => .stuck
def sm1F (g : Sto → Str → D → R (List D)) (mo ma : En → Sto → R D) : En → Sto → R (List D) := fun env S => (mo env S).bind fun o S1 => match o with
  | .str z => (ma env S1).bind fun d S2 => g S2 z d
  | _ => .stuck
def Sm1 (M : Mp) (r : V → List V → Hp → VK → Prop) (g : Sto → Str → D → R D) : Prop := ∀ (φ ψ : List Addr) (S : Sto) (H : Hp) (z : Str) (d : D) (y : V) (Q : VK) (Wc : Value → Option Addr → Hp → Prop),
  SRel M φ ψ S H → Rep M φ ψ H d y → Post (rpD M ψ) φ H (g S z d) Q Wc → r (.str z) [y] H Q
def Sm1F (M : Mp) (r : V → List V → Hp → VK → Prop) (g : Sto → Str → D → R (List D)) : Prop := ∀ (φ ψ : List Addr) (S : Sto) (H : Hp) (z : Str) (d : D) (y : V) (Q : VK) (Wc : Value → Option Addr → Hp → Prop),
  SRel M φ ψ S H → Rep M φ ψ H d y → Post (rpF M ψ) φ H (g S z d) Q Wc → r (.str z) [y] H Q
theorem rd_sm1 {r : V → List V → Hp → VK → Prop} {g : Sto → Str → D → R D} (hk : Sm1 M r g) : ∀ σ H Q, rdD M W (sm1 g mo ma) σ H Q → tM1 r (rdD M W mo) (rdD M W ma) σ H Q := fun σ H Q h => by
  refine rd_bindD h _ fun env φ1 ψ d1 x S1 H1 er sr r1 q => ?_
  split at q
  · rename_i z
    simp only [Rep] at r1; subst r1
    refine ⟨⟨z, rfl⟩, env, S1, φ1, ψ, er, sr, (Post.bind (rp1 := rpD M ψ) q).imp ?_⟩
    rintro y H2 ⟨φ2, d2, S2, e2, ⟨s2, r2⟩, q2⟩
    exact hk φ2 ψ S2 H2 z d2 y Q _ s2 r2 q2
  · exact q.elim
theorem rd_sm1F {r : V → List V → Hp → VK → Prop} {g : Sto → Str → D → R (List D)} (hk : Sm1F M r g) : ∀ σ H Q, rd M (rpF M) W (sm1F g mo ma) σ H Q → tM1 r (rdD M W mo) (rdD M W ma) σ H Q := fun σ H Q h => by
  refine rd_bindD h _ fun env φ1 ψ d1 x S1 H1 er sr r1 q => ?_
  split at q
  · rename_i z
    simp only [Rep] at r1; subst r1
    refine ⟨⟨z, rfl⟩, env, S1, φ1, ψ, er, sr, (Post.bind (rp1 := rpD M ψ) q).imp ?_⟩
    rintro y H2 ⟨φ2, d2, S2, e2, ⟨s2, r2⟩, q2⟩
    exact hk φ2 ψ S2 H2 z d2 y Q _ s2 r2 q2
  · exact q.elim
/-- a list or a tuple of texts -/
def asStrs (S : Sto) (d : D) : Option (List Str) := match d with
  | .tup ds => strsOf ds
  | d => (asL S d).bind strsOf
def joinG (S : Sto) (z : Str) (d : D) : R D := match asStrs S d with
  | some ys => if (ys.map (·.length)).sum + ys.length * z.length ≤ 16777216 then .ok (.str (Txt.join z ys)) S else .stuck
  | none => .stuck
def splitG (S : Sto) (z : Str) (d : D) : R (List D) := match d with
  | .str b => if (b.length == 0) = false ∧ z.length + 2 ≤ sizeLine then .ok ((Txt.split z b).map D.str) S else .stuck
  | _ => .stuck
def sindG (S : Sto) (z : Str) (d : D) : R D := match d with
  | .str b => (match Builtin.Str.occurrences z b 0 z.length 1 with
    | i :: _ => .ok (.int (i : Nat)) S
    | [] => .stuck)
  | _ => .stuck
theorem strs_at {φ ψ : List Addr} {S : Sto} {H : Hp} {d : D} {y : V} {ys : List Str} (s : SRel M φ ψ S H) (r : Rep M φ ψ H d y) (e : asStrs S d = some ys) : ∃ p, y = .ref p ∧ (SqL M.K H p (ys.map V.str) ∨ SqT M.K H p (ys.map V.str)) := by
  unfold asStrs at e
  split at e
  · simp only [Rep] at r
    obtain ⟨p, xs, rfl, h1, h2⟩ := r
    rw [strs_rep e h2] at h1
    exact ⟨p, rfl, .inr h1⟩
  · rw [Option.bind_eq_some_iff] at e
    obtain ⟨ds, e1, e2⟩ := e
    obtain ⟨p, xs, rfl, h1, h2⟩ := at_L s r e1
    rw [strs_rep e2 h2] at h1
    exact ⟨p, rfl, .inl h1⟩
theorem de_join (ho : DE X M W o mo) (ha : DE X M W a ma) (hK : X.K = M.K := by rfl) (hs : starEach [a] X.env = [(false, eval a X.env)] := by rfl) (hbase : attributeBase o "join" X.env (eval o X.env) = eval o X.env := by rfl)
    (hline : (apos.endLine == pos.line) = true := by rfl) : DE X M W (.Call (.Attribute o "join" apos) [a] [] pos) (sm1 joinG mo ma) := by
  refine pe_imp (pe_join ho ha hs hbase hline) (rd_sm1 ?_)
  intro φ ψ S H z d y Q Wc s r q
  unfold joinG at q
  split at q
  · rename_i ys e
    split at q
    · rename_i hz
      obtain ⟨p, rfl, h⟩ := strs_at s r e
      exact ⟨z, p, ys, rfl, rfl, by rw [hK]; exact h, hz, q.retD s (by simp only [Rep])⟩
    · exact q.elim
  · exact q.elim
theorem de_sindex (ho : DE X M W o mo) (ha : DE X M W a ma) (hK : X.K = M.K := by rfl) (hs : starEach [a] X.env = [(false, eval a X.env)] := by rfl) (hbase : attributeBase o "index" X.env (eval o X.env) = eval o X.env := by rfl)
    (hline : (apos.endLine == pos.line) = true := by rfl) : DE X M W (.Call (.Attribute o "index" apos) [a] [] pos) (sm1 sindG mo ma) := by
  refine pe_imp (pe_m1 PySem.F.slot_str_index PySem.F.type_str_index mt_sindex ho ha hs hbase hline) (rd_sm1 ?_)
  intro φ ψ S H z d y Q Wc s r q
  unfold sindG at q
  split at q
  · rename_i b
    split at q
    · rename_i i rest e
      simp only [Rep] at r; subst r
      exact ⟨z, b, i, rest, rfl, rfl, e, q.retD s (by simp only [Rep])⟩
    · exact q.elim
  · exact q.elim
theorem df_split (ho : DE X M W o mo) (ha : DE X M W a ma) (hK : X.K = M.K := by rfl) (hs : starEach [a] X.env = [(false, eval a X.env)] := by rfl) (hbase : attributeBase o "split" X.env (eval o X.env) = eval o X.env := by rfl)
    (hline : (apos.endLine == pos.line) = true := by rfl) : DF X M W (.Call (.Attribute o "split" apos) [a] [] pos) (sm1F splitG mo ma) := by
  refine pe_imp (pe_split ho ha hs hbase hline) (rd_sm1F ?_)
  intro φ ψ S H z d y Q Wc s r q
  unfold splitG at q
  split at q
  · rename_i b
    split at q
    · rename_i hz
      simp only [Rep] at r; subst r
      exact ⟨z, b, rfl, rfl, hz.1, hz.2, fun p hp => q.newF s hp (rep_strs _)⟩
    · exact q.elim
  · exact q.elim
end
theorem FOkG.wide {P : Program} {w : World} {M M' : Mp} {mg : Str → Option Value} {base : Heap} {k : Nat} {x : Str} {st : Stmt} {ps : List Str} {f : DL.Fn} (h : FOkG P w M mg base k x st ps f) (g : M'.Agr M) (ok : M.Ok) : FOkG P w M' mg base k x st ps (subM f) := by
  obtain ⟨fa, fd, h1, h2, h3, h4⟩ := h.ex
  exact ⟨fa, fd, by rw [g.K]; exact h1, by rw [g.K]; exact h2.imp fun vs H Q E q => q.sub g ok, h3, by rw [g.K]; exact h4⟩
section
variable {X : Cx} {M : Mp} {W : WX} {o a : Expr} {mo ma : En → Sto → R D} {apos pos : Pos}
/-! ### int(text) -/
def intTG (S : Sto) : List D → R D
  | [.str z] => (match PySem.intText? z with
    | some n => if z.length ≤ 640 then .ok (.int n) S else .stuck
    | none => .stuck)
  | ds => intCG S ds
theorem c_intT : ∃ r, CallR X (.type "int") r ∧ Call1 M r intTG := by
  obtain ⟨r, h1, h2⟩ := c_int (X := X) (M := M)
  refine ⟨_, h1.or call_int_str, ?_⟩
  intro φ ψ S H ds vs Q Wc s r p
  unfold intTG at p
  split at p
  · split at p
    · rename_i z _ n e
      split at p
      · rename_i hz
        obtain ⟨v, rfl, h⟩ := r.one
        simp only [Rep] at h; subst h
        exact .inr ⟨z, n, rfl, e, hz, p.retD s (by simp only [Rep])⟩
      · exact p.elim
    · exact p.elim
  · exact .inl (h2 φ ψ S H ds vs Q Wc s r p)
/-! ### text * int -/
def mulXG (S : Sto) (d e : D) : R D := match d, e with
  | .str z, .int n => if 1 < n ∧ 1 ≤ z.length ∧ (z.length : Int) * n ≤ 4000 then .ok (.str (Txt.mul z n)) S else .stuck
  | d, e => mulG S d e
theorem op_mul_txt : OpR X (binaryOp .Mult) (fun x y H Q => ∃ z n, x = .str z ∧ y = .int n ∧ MulOk z n ∧ Q (.str (Txt.mul z n)) H) := by
  intro pins s σ H x y v u Q I rx ry h
  obtain ⟨z, n, rfl, rfl, ok, q⟩ := h
  obtain ⟨t, rfl⟩ := rx
  obtain ⟨t', rfl⟩ := ry
  exact PySem.SB.mul ok fun t'' k => ⟨.str (Txt.mul z n), H, I.tok k, ⟨t'', rfl⟩, q⟩
theorem mulOk_of {z : Str} {n : Int} (h : 1 < n ∧ 1 ≤ z.length ∧ (z.length : Int) * n ≤ 4000) : MulOk z n := by
  obtain ⟨h1, h2, h3⟩ := h
  have b1 : 1 * n ≤ (z.length : Int) * n := Int.mul_le_mul_of_nonneg_right (by omega) (by omega)
  have b2 : (z.length : Int) * 1 ≤ (z.length : Int) * n := Int.mul_le_mul_of_nonneg_left (by omega) (by omega)
  have hn : n ≤ 4000 := by omega
  have hl : (z.length : Int) ≤ 4000 := by omega
  refine ⟨?_, fun _ _ => ?_, fun _ _ => ?_⟩
  · rw [Bool.or_eq_false_iff]
    exact ⟨decide_eq_false (by omega), decide_eq_false (by omega)⟩
  · have : (4000 : Int) ≤ (2 ^ 63 - 1) / n := (Int.le_ediv_iff_mul_le (by omega)).mpr (by omega)
    omega
  · have e : ((z.length * n.toNat : Nat) : Int) = (z.length : Int) * n := by rw [Int.natCast_mul, Int.toNat_of_nonneg (by omega)]
    show decide (_ > _) = false
    refine decide_eq_false ?_
    have : z.length * n.toNat ≤ 4000 := by omega
    intro h
    have := sizeLine_eq
    omega
theorem op_mulXG : ∃ r, OpR X (binaryOp .Mult) r ∧ Op2 M r mulXG := by
  obtain ⟨r, h1, h2⟩ := op_mulG (X := X) (M := M)
  refine ⟨_, h1.or op_mul_txt, ?_⟩
  intro φ ψ S H d1 d2 x y Q Wc s r1 r2 p
  unfold mulXG at p
  split at p
  · split at p
    · rename_i hz
      simp only [Rep] at r1 r2; subst r1 r2
      exact .inr ⟨_, _, rfl, rfl, mulOk_of hz, p.retD s (by simp only [Rep])⟩
    · exact p.elim
  · exact .inl (h2 φ ψ S H _ _ x y Q Wc s r1 r2 p)
/-! ### tuples in order -/
def ordX (h : List Key → List Key → Bool) (g : Sto → D → D → R Bool) (S : Sto) (d e : D) : R Bool := match tkOf d, tkOf e with
  | some x, some y => if x.map isI = y.map isI then .ok (h x y) S else .stuck
  | _, _ => g S d e
abbrev ltX := ordX tlt ltG
abbrev leX := ordX (fun x y => !tlt y x) leG
theorem tk_at {φ ψ : List Addr} {H : Hp} {d : D} {v : V} {k : List Key} (r : Rep M φ ψ H d v) (e : tkOf d = some k) : ∃ a, v = .ref a ∧ SqT M.K H a (k.map keyV) := by
  cases d <;> simp only [tkOf, reduceCtorEq] at e
  simp only [Rep] at r
  obtain ⟨a, xs, rfl, h1, h2⟩ := r
  rw [keys_rep e h2] at h1
  exact ⟨a, rfl, h1⟩
def rOrdK (K : PySem.W.Frag) (f : List Key → List Key → Bool) : R2 := fun x y H Q => ∃ (a b : Addr) (k l : List Key), x = .ref a ∧ y = .ref b ∧ SqT K H a (k.map keyV) ∧ SqT K H b (l.map keyV) ∧ k.map isI = l.map isI ∧ Q (.bl (f k l)) H
theorem dep_tup (k : List Key) : (tupD k).depth ≤ 1 := by simp [tupD, PyData.depth, depth_keys]
theorem op_ltK (hu : X.A.units + 64 < cLine) : OpR X (compareOp .Lt) (rOrdK X.K tlt) := by
  intro pins s σ H x y v u Q I rx ry h
  obtain ⟨a, b, k, l, rfl, rfl, ha, hb, hs, q⟩ := h
  cases rx
  cases ry
  have d1 := dep_tup k
  exact PySem.W.lt_data (reads_tup (inv_tk I ha)) (reads_tup (inv_tk I hb)) (alike_keys hs) (fun z => nomatch z) (by omega) (by rw [tlt_data hs]; exact ⟨.bl _, H, I, rfl, q⟩)
theorem op_leK (hu : X.A.units + 64 < cLine) : OpR X (compareOp .LtE) (rOrdK X.K fun k l => !tlt l k) := by
  intro pins s σ H x y v u Q I rx ry h
  obtain ⟨a, b, k, l, rfl, rfl, ha, hb, hs, q⟩ := h
  cases rx
  cases ry
  have d1 := dep_tup k
  exact PySem.W.le_data (reads_tup (inv_tk I ha)) (reads_tup (inv_tk I hb)) (alike_keys hs) (fun z => nomatch z) (by omega) (by rw [tlt_data hs.symm]; exact ⟨.bl _, H, I, rfl, q⟩)
theorem cm_ordX {op : CmpOp} {f : List Key → List Key → Bool} {g : Sto → D → D → R Bool} (h1 : OpR X (compareOp op) (rOrdK X.K f)) (h2 : ∃ r, OpR X (compareOp op) r ∧ Cm2 M r g) (hK : X.K = M.K) : ∃ r, OpR X (compareOp op) r ∧ Cm2 M r (ordX f g) := by
  obtain ⟨r, g1, g2⟩ := h2
  refine ⟨_, h1.or g1, ?_⟩
  intro φ ψ S H d1 d2 x y Q Wc s r1 r2 p
  unfold ordX at p
  split at p
  · rename_i k l e1 e2
    split at p
    · rename_i hs
      obtain ⟨a, rfl, ha⟩ := tk_at r1 e1
      obtain ⟨b, rfl, hb⟩ := tk_at r2 e2
      exact .inl ⟨a, b, k, l, rfl, rfl, by rw [hK]; exact ha, by rw [hK]; exact hb, hs, p.retB s⟩
    · exact p.elim
  · exact .inr (g2 φ ψ S H d1 d2 x y Q Wc s r1 r2 p)
theorem cm_ltX (hu : X.A.units + 64 < cLine) (hK : X.K = M.K := by rfl) : ∃ r, OpR X (compareOp .Lt) r ∧ Cm2 M r ltX := cm_ordX (op_ltK hu) cm_ltG hK
theorem cm_leX (hu : X.A.units + 64 < cLine) (hK : X.K = M.K := by rfl) : ∃ r, OpR X (compareOp .LtE) r ∧ Cm2 M r leX := cm_ordX (op_leK hu) cm_leG hK
end
end DL
end

section
set_option Elab.async false
set_option linter.all false
set_option maxRecDepth 100000
set_option maxHeartbeats 4000000
namespace K25
open PySem PySem.Spec PyProof.Rows L2 LamX NdefX DL
def top (i : Nat) : Stmt := PySem.Challenge.pw_sameoneverygraph_k25_whole_graphs_as_tex.main.body.getD i (.Pass ⟨0, 0, 0, 0⟩)

def cd_0 : Cd := cdLam "_law_is_text_right.<locals>.<lambda>" (nthE 0 (argsE (valS (nthS 1 (C8.fnBody (top 44)))))) ["text"] ["text"]
def cd_1 : Cd := cdLam "_law_right.<locals>.<lambda>" (nthE 0 (argsE (subE (valS (nthS 7 (C8.fnBody (top 45))))))) ["odd"] ["odd"]
def cd_2 : Cd := cdLam "_law_right.<locals>.<lambda>" (nthE 0 (argsE (subE (valS (nthS 10 (C8.fnBody (top 45))))))) ["odd"] ["odd"]
def cds : Nat → Option Cd
  | 0 => some cd_0
  | 1 => some cd_1
  | 2 => some cd_2
  | _ => none
def own__law_is_text_right : Nat → Option Cd
  | 0 => some cd_0
  | _ => none
def cap__law_is_text_right : Nat → Option (List Nat)
  | 0 => some [0]
  | _ => none
def nm__law_is_text_right : Nat → Nat → Str := fun _ _ => "_law_is_text_right.<locals>.<lambda>"
def own__law_right : Nat → Option Cd
  | 1 => some cd_1
  | 2 => some cd_2
  | _ => none
def cap__law_right : Nat → Option (List Nat)
  | 1 => some [13]
  | 2 => some [13]
  | _ => none
def nm__law_right : Nat → Nat → Str := fun _ _ => "_law_right.<locals>.<lambda>"
def tabL (pa : Nat → Addr) : List NTab := [(pa 0, nm__law_is_text_right), (pa 1, nm__law_right)]
structure Gf (P : Program) (w : World) (M : Mp) (mg : Str → Option Value) (base : Heap) (cc pa : Nat → Addr) : Prop where
  mo : M.Ok
  clos : ∀ k H f xs, M.clo k H f xs ↔ k < 1000 ∧ cloP cds k H f xs
  tabs : M.tabs = TabsN (tabL pa)
  tdis : ∀ p ∈ tabL pa, ∀ r ∈ tabL pa, p.1 = r.1 → p.2 = r.2
  tb__law_is_text_right : TabB base mg (cc 0) (pa 0)
  tb__law_right : TabB base mg (cc 1) (pa 1)
  f_isinstance : mg "isinstance" = none
  f_int : mg "int" = none
  f_bool : mg "bool" = none
  d_is_int : mg "is_int" = some (.ref (M.fa 0))
  e_is_int : ∃ fd, FnD M.K "is_int" (top 8) (M.fa 0) fd
  f_zip : mg "zip" = none
  f_all : mg "all" = none
  d_is_rising : mg "is_rising" = some (.ref (M.fa 1))
  e_is_rising : ∃ fd, FnD M.K "is_rising" (top 9) (M.fa 1) fd
  f_str : mg "str" = none
  f_len : mg "len" = none
  g_MOST_LETTERS : ∃ t, mg "MOST_LETTERS" = some (.int 12 t)
  g_LETTERS : ∃ t, mg "LETTERS" = some (.str "abcdefghijklmnopqrstuvwxyz" t)
  d_is_name : mg "is_name" = some (.ref (M.fa 2))
  e_is_name : ∃ fd, FnD M.K "is_name" (top 10) (M.fa 2) fd
  f_tuple : mg "tuple" = none
  d_are_names : mg "are_names" = some (.ref (M.fa 3))
  e_are_names : ∃ fd, FnD M.K "are_names" (top 11) (M.fa 3) fd
  d_is_edge : mg "is_edge" = some (.ref (M.fa 4))
  e_is_edge : ∃ fd, FnD M.K "is_edge" (top 15) (M.fa 4) fd
  g_MOST_NODES : ∃ t, mg "MOST_NODES" = some (.int 60 t)
  g_MOST_EDGES : ∃ t, mg "MOST_EDGES" = some (.int 400 t)
  d_is_graph : mg "is_graph" = some (.ref (M.fa 5))
  e_is_graph : ∃ fd, FnD M.K "is_graph" (top 16) (M.fa 5) fd
  x_BadGraph : ErC M P mg "BadGraph" 1
  d_look_at_graph : mg "look_at_graph" = some (.ref (M.fa 6))
  e_look_at_graph : ∃ fd, FnD M.K "look_at_graph" (top 17) (M.fa 6) fd
  g_MOST_FIGURES : ∃ t, mg "MOST_FIGURES" = some (.int 3 t)
  g_DIGITS : ∃ t, mg "DIGITS" = some (.str "0123456789" t)
  d_told_number : mg "told_number" = some (.ref (M.fa 7))
  e_told_number : ∃ fd, FnD M.K "told_number" (top 21) (M.fa 7) fd
  f_list : mg "list" = none
  f_sorted : mg "sorted" = none
  f_set : mg "set" = none
  d_told_marks : mg "told_marks" = some (.ref (M.fa 8))
  e_told_marks : ∃ fd, FnD M.K "told_marks" (top 22) (M.fa 8) fd
  d_told_lines : mg "told_lines" = some (.ref (M.fa 9))
  e_told_lines : ∃ fd, FnD M.K "told_lines" (top 24) (M.fa 9) fd
  d_print_graph : mg "print_graph" = some (.ref (M.fa 10))
  e_print_graph : ∃ fd, FnD M.K "print_graph" (top 25) (M.fa 10) fd
  d_told_edge : mg "told_edge" = some (.ref (M.fa 11))
  e_told_edge : ∃ fd, FnD M.K "told_edge" (top 26) (M.fa 11) fd
  d_told_row : mg "told_row" = some (.ref (M.fa 12))
  e_told_row : ∃ fd, FnD M.K "told_row" (top 27) (M.fa 12) fd
  x_BadText : ErC M P mg "BadText" 2
  f_enumerate : mg "enumerate" = none
  x_NotRead : ErC M P mg "NotRead" 3
  d_read_graph : mg "read_graph" = some (.ref (M.fa 13))
  e_read_graph : ∃ fd, FnD M.K "read_graph" (top 28) (M.fa 13) fd
  c_NotRead : mg "NotRead" = some (.ref (M.ca 3))
  t_NotRead : ∀ c b, ([false, false, false, true] : List Bool)[c]? = some b → PySem.W.exmOne M.K (.ref (M.ca c)) (.ref (M.ca 3)) = some b
  d_can_be_read_as_graph : mg "can_be_read_as_graph" = some (.ref (M.fa 14))
  e_can_be_read_as_graph : ∃ fd, FnD M.K "can_be_read_as_graph" (top 29) (M.fa 14) fd
  f_sum : mg "sum" = none
  f_abs : mg "abs" = none
  d__law_pot : mg "_law_pot" = some (.ref (M.fa 15))
  e__law_pot : ∃ fd, FnD M.K "_law_pot" (top 31) (M.fa 15) fd
  d__law_take : mg "_law_take" = some (.ref (M.fa 16))
  e__law_take : ∃ fd, FnD M.K "_law_take" (top 32) (M.fa 16) fd
  d__law_of : mg "_law_of" = some (.ref (M.fa 17))
  e__law_of : ∃ fd, FnD M.K "_law_of" (top 33) (M.fa 17) fd
  f_min : mg "min" = none
  f_max : mg "max" = none
  f_range : mg "range" = none
  d__law_cells : mg "_law_cells" = some (.ref (M.fa 18))
  e__law_cells : ∃ fd, FnD M.K "_law_cells" (top 34) (M.fa 18) fd
  c_GraphError : mg "GraphError" = some (.ref (M.ca 0))
  t_GraphError : ∀ c b, ([true, true, true, true] : List Bool)[c]? = some b → PySem.W.exmOne M.K (.ref (M.ca c)) (.ref (M.ca 0)) = some b
  d__law_heard : mg "_law_heard" = some (.ref (M.fa 19))
  e__law_heard : ∃ fd, FnD M.K "_law_heard" (top 35) (M.fa 19) fd
  d__law_is_bool : mg "_law_is_bool" = some (.ref (M.fa 20))
  e__law_is_bool : ∃ fd, FnD M.K "_law_is_bool" (top 36) (M.fa 20) fd
  d__law_marks_drawn : mg "_law_marks_drawn" = some (.ref (M.fa 21))
  e__law_marks_drawn : ∃ fd, FnD M.K "_law_marks_drawn" (top 37) (M.fa 21) fd
  d__law_graph_drawn : mg "_law_graph_drawn" = some (.ref (M.fa 22))
  e__law_graph_drawn : ∃ fd, FnD M.K "_law_graph_drawn" (top 38) (M.fa 22) fd
  d__law_is_name : mg "_law_is_name" = some (.ref (M.fa 23))
  e__law_is_name : ∃ fd, FnD M.K "_law_is_name" (top 39) (M.fa 23) fd
  d__law_are_marks : mg "_law_are_marks" = some (.ref (M.fa 24))
  e__law_are_marks : ∃ fd, FnD M.K "_law_are_marks" (top 40) (M.fa 24) fd
  d__law_lines : mg "_law_lines" = some (.ref (M.fa 25))
  e__law_lines : ∃ fd, FnD M.K "_law_lines" (top 41) (M.fa 25) fd
  d__law_number : mg "_law_number" = some (.ref (M.fa 26))
  e__law_number : ∃ fd, FnD M.K "_law_number" (top 42) (M.fa 26) fd
  d__law_read : mg "_law_read" = some (.ref (M.fa 27))
  e__law_read : ∃ fd, FnD M.K "_law_read" (top 43) (M.fa 27) fd
  f_repr : mg "repr" = none
  ask : ∀ c, c < 4 → AskC M.K (M.ca c)
  i_NotRead : ∀ c b, ([false, false, false, true] : List Bool)[c]? = some b → PySem.W.kitOne M.K (.ref (M.ca c)) (.ref (M.ca 3)) = some b
  d__law_is_text_right : mg "_law_is_text_right" = some (.ref (M.fa 28))
  e__law_is_text_right : ∃ fd, FunC M.K "_law_is_text_right" (top 44) (M.fa 28) (cc 0) fd
  c_BadText : mg "BadText" = some (.ref (M.ca 2))
  i_BadText : ∀ c b, ([false, false, true, false] : List Bool)[c]? = some b → PySem.W.kitOne M.K (.ref (M.ca c)) (.ref (M.ca 2)) = some b
  c_BadGraph : mg "BadGraph" = some (.ref (M.ca 1))
  i_BadGraph : ∀ c b, ([false, true, false, false] : List Bool)[c]? = some b → PySem.W.kitOne M.K (.ref (M.ca c)) (.ref (M.ca 1)) = some b
  d__law_right : mg "_law_right" = some (.ref (M.fa 29))
  e__law_right : ∃ fd, FunC M.K "_law_right" (top 45) (M.fa 29) (cc 1) fd
  d_law : mg "law" = some (.ref (M.fa 30))
  e_law : ∃ fd, FnD M.K "law" (top 46) (M.fa 30) fd
section
variable {P : Program} {w : World} {M : Mp} {mg : Str → Option Value} {base : Heap} {cc pa : Nat → Addr}
def b_is_int : FM :=
 (retM (andM (isiM .int (varM 0)) (andM (notM (isiM .bool (varM 0))) (valM (chB leG leG (varM 1) (varM 0) (varM 2))))))
def x_is_int : DL.Fn := subM (bodyM 3 b_is_int)
theorem ok_is_int (G : Gf P w M mg base cc pa) : FOk P w M mg base 1 "is_int" (top 8) ["value", "low", "high"] x_is_int := by
  obtain ⟨fd, hF⟩ := G.e_is_int
  have S : FnScope ["value", "low", "high"] ["value", "low", "high"] (C8.fnScope (top 8)) := ⟨rfl, rfl, rfl, by decide +kernel, rfl, by decide +kernel, by decide +kernel⟩
  have F : FOk P w M mg base 1 "is_int" (top 8) ["value", "low", "high"] (bodyM 3 b_is_int) := ⟨_, fd, hF, fn_dl hF S (fun X cdv A outer s H E hX B O => ?_), G.d_is_int, hF.bindsN fun _ _ _ _ _ _ us hl => match us, hl with | [_, _, _], _ => rfl⟩
  · exact F.sub G.mo
  exact (dss_one (ds_ret (de_and (de_isi .int G.f_isinstance G.f_int boot_int (de_var 0)) (de_and (de_not (de_isi .bool G.f_isinstance G.f_bool boot_bool (de_var 0))) (de_one (de_ch cm_leG cm_leG (de_var 1) (de_var 0) (de_var 2)))))))
def b_is_rising : FM :=
 (retM (callM allG (consM (frzM (lcM (callI zipI (consM (varM 0) (consM (sliM sliG (varM 0) (partM (cM (.int 1))) noneM) nilM))) [1, 2] [1, 2] (tupT (moreT nameT (moreT nameT noT))) tYesM (valM (cmpB ltX (varM 1) (varM 2))))) nilM)))
def x_is_rising : DL.Fn := subM (bodyM 3 b_is_rising)
theorem ok_is_rising (G : Gf P w M mg base cc pa) : FOk P w M mg base 1 "is_rising" (top 9) ["some"] x_is_rising := by
  obtain ⟨fd, hF⟩ := G.e_is_rising
  have S : FnScope ["some", "one", "other"] ["some"] (C8.fnScope (top 9)) := ⟨rfl, rfl, rfl, by decide +kernel, rfl, by decide +kernel, by decide +kernel⟩
  have F : FOk P w M mg base 1 "is_rising" (top 9) ["some"] (bodyM 3 b_is_rising) := ⟨_, fd, hF, fn_dl hF S (fun X cdv A outer s H E hX B O => ?_), G.d_is_rising, hF.bindsN fun _ _ _ _ _ _ us hl => match us, hl with | [_], _ => rfl⟩
  · exact F.sub G.mo
  exact (dss_one (ds_ret (de_b (c_all B.calm) G.f_all boot_all (da_cons (DF.frz (df_lcB [("one", 1), ("other", 2)] B (di_zip (da_cons (de_var 0) (da_cons (de_sli (de_var 0) (do_some de_int) do_none) da_nil)) G.f_zip) rfl (tg_tup (tgs_cons (tg_name 1) (tgs_cons (tg_name 2) tgs_nil))) (by decide) (fun s H C cl fp B1 => (pg_tup B1.calm (pgs_cons (pg_name B1.nd rfl (by first | exact Or.inl rfl | exact Or.inr rfl)) (pgs_cons (pg_name B1.nd rfl (by first | exact Or.inl rfl | exact Or.inr rfl)) pgs_nil)))) (fun s H C cl fp B1 => dts_nil) (fun s H C cl fp B1 => (de_c (cm_ltX B1.units) (de_var 1) (de_var 2))))) da_nil))))
def b_is_name : FM :=
 (seqM (ifS (orB (notB (tstM (isiM .str (varM 0)))) (notB (chB leG leG (cM (.int 1)) (callM lenG (consM (varM 0) nilM)) (cM (.int 12))))) (retM (cM (.bl false))) passM)
 (retM (callM allG (consM (frzM (lcM (seqI (varM 0)) [1] [1] nameT tYesM (valM (cmpB inG (varM 1) (cM (.str "abcdefghijklmnopqrstuvwxyz")))))) nilM))))
def x_is_name : DL.Fn := subM (bodyM 2 b_is_name)
theorem ok_is_name (G : Gf P w M mg base cc pa) : FOk P w M mg base 1 "is_name" (top 10) ["value"] x_is_name := by
  obtain ⟨fd, hF⟩ := G.e_is_name
  have S : FnScope ["value", "letter"] ["value"] (C8.fnScope (top 10)) := ⟨rfl, rfl, rfl, by decide +kernel, rfl, by decide +kernel, by decide +kernel⟩
  have F : FOk P w M mg base 1 "is_name" (top 10) ["value"] (bodyM 2 b_is_name) := ⟨_, fd, hF, fn_dl hF S (fun X cdv A outer s H E hX B O => ?_), G.d_is_name, hF.bindsN fun _ _ _ _ _ _ us hl => match us, hl with | [_], _ => rfl⟩
  · exact F.sub G.mo
  exact (dss_cons (ds_if (DW.t (dw_or (dt_not (de_tst (de_isi .str G.f_isinstance G.f_str boot_str (de_var 0)))) (dw_or1 (dt_not (dt_ch cm_leG cm_leG de_int (de_b c_len G.f_len boot_len (da_cons (de_var 0) da_nil)) (de_gint G.g_MOST_LETTERS)))))) (dss_one (ds_ret de_bl)) dss_nil)
 (dss_one (ds_ret (de_b (c_all B.calm) G.f_all boot_all (da_cons (DF.frz (df_lcB [("letter", 1)] B (di_seq (de_var 0)) rfl (tg_name 1) (by decide) (fun s H C cl fp B1 => (pg_name B1.nd rfl (by first | exact Or.inl rfl | exact Or.inr rfl))) (fun s H C cl fp B1 => dts_nil) (fun s H C cl fp B1 => (de_c cm_inG (de_var 1) (de_gstr G.g_LETTERS))))) da_nil)))))
def b_are_names : FM :=
 (retM (andM (isiM .tuple (varM 0)) (andM (callM allG (consM (frzM (lcM (seqI (varM 0)) [1] [1] nameT tYesM (callM x_is_name (consM (varM 1) nilM)))) nilM)) (callM x_is_rising (consM (varM 0) nilM)))))
def x_are_names : DL.Fn := subM (bodyM 2 b_are_names)
theorem ok_are_names (G : Gf P w M mg base cc pa) : FOk P w M mg base 2 "are_names" (top 11) ["value"] x_are_names := by
  obtain ⟨fd, hF⟩ := G.e_are_names
  have S : FnScope ["value", "one"] ["value"] (C8.fnScope (top 11)) := ⟨rfl, rfl, rfl, by decide +kernel, rfl, by decide +kernel, by decide +kernel⟩
  have F : FOk P w M mg base 2 "are_names" (top 11) ["value"] (bodyM 2 b_are_names) := ⟨_, fd, hF, fn_dl hF S (fun X cdv A outer s H E hX B O => ?_), G.d_are_names, hF.bindsN fun _ _ _ _ _ _ us hl => match us, hl with | [_], _ => rfl⟩
  · exact F.sub G.mo
  exact (dss_one (ds_ret (de_and (de_isi .tuple G.f_isinstance G.f_tuple boot_tuple (de_var 0)) (de_and (de_b (c_all B.calm) G.f_all boot_all (da_cons (DF.frz (df_lcB [("one", 1)] B (di_seq (de_var 0)) rfl (tg_name 1) (by decide) (fun s H C cl fp B1 => (pg_name B1.nd rfl (by first | exact Or.inl rfl | exact Or.inr rfl))) (fun s H C cl fp B1 => dts_nil) (fun s H C cl fp B1 => (de_call B1 (ok_is_name G) (da_cons (de_var 1) da_nil))))) da_nil)) (de_one (de_call B (ok_is_rising G) (da_cons (de_var 0) da_nil)))))))
def b_is_edge : FM :=
 (seqM (ifS (orB (notB (tstM (isiM .tuple (varM 0)))) (orB (cmpB neG (callM lenG (consM (varM 0) nilM)) (op2M addA (cM (.int 2)) (cM (.int 1)))) (notB (tstM (callM x_is_name (consM (op2M idxG (varM 0) (cM (.int 1))) nilM)))))) (retM (cM (.bl false))) passM)
 (retM (andM (callM x_is_int (consM (op2M idxG (varM 0) (cM (.int 0))) (consM (cM (.int 0)) (consM (op2M subG (varM 1) (cM (.int 1))) nilM)))) (callM x_is_int (consM (op2M idxG (varM 0) (cM (.int 2))) (consM (cM (.int 0)) (consM (op2M subG (varM 1) (cM (.int 1))) nilM)))))))
def x_is_edge : DL.Fn := subM (bodyM 2 b_is_edge)
theorem ok_is_edge (G : Gf P w M mg base cc pa) : FOk P w M mg base 2 "is_edge" (top 15) ["value", "nodes"] x_is_edge := by
  obtain ⟨fd, hF⟩ := G.e_is_edge
  have S : FnScope ["value", "nodes"] ["value", "nodes"] (C8.fnScope (top 15)) := ⟨rfl, rfl, rfl, by decide +kernel, rfl, by decide +kernel, by decide +kernel⟩
  have F : FOk P w M mg base 2 "is_edge" (top 15) ["value", "nodes"] (bodyM 2 b_is_edge) := ⟨_, fd, hF, fn_dl hF S (fun X cdv A outer s H E hX B O => ?_), G.d_is_edge, hF.bindsN fun _ _ _ _ _ _ us hl => match us, hl with | [_, _], _ => rfl⟩
  · exact F.sub G.mo
  exact (dss_cons (ds_if (DW.t (dw_or (dt_not (de_tst (de_isi .tuple G.f_isinstance G.f_tuple boot_tuple (de_var 0)))) (dw_or (dt_c (cm_neG B.units) (de_b c_len G.f_len boot_len (da_cons (de_var 0) da_nil)) (de_add de_int de_int)) (dw_or1 (dt_not (de_tst (de_call B (ok_is_name G) (da_cons (de_idx (de_var 0) de_int) da_nil)))))))) (dss_one (ds_ret de_bl)) dss_nil)
 (dss_one (ds_ret (de_and (de_call B (ok_is_int G) (da_cons (de_idx (de_var 0) de_int) (da_cons de_int (da_cons (de_o op_subG (de_var 1) de_int) da_nil)))) (de_one (de_call B (ok_is_int G) (da_cons (de_idx (de_var 0) de_int) (da_cons de_int (da_cons (de_o op_subG (de_var 1) de_int) da_nil)))))))))
def b_is_graph : FM :=
 (seqM (ifS (orB (notB (tstM (isiM .tuple (varM 0)))) (orB (cmpB neG (callM lenG (consM (varM 0) nilM)) (cM (.int 2))) (notB (tstM (isiM .tuple (op2M idxG (varM 0) (cM (.int 0)))))))) (retM (cM (.bl false))) passM)
 (seqM (ifS (orB (notB (chB leG leG (cM (.int 1)) (callM lenG (consM (op2M idxG (varM 0) (cM (.int 0))) nilM)) (cM (.int 60)))) (notB (tstM (callM allG (consM (frzM (lcM (seqI (op2M idxG (varM 0) (cM (.int 0)))) [1] [1] nameT tYesM (callM x_are_names (consM (varM 1) nilM)))) nilM))))) (retM (cM (.bl false))) passM)
 (seqM (ifS (orB (notB (tstM (isiM .tuple (op2M idxG (varM 0) (cM (.int 1)))))) (cmpB gtG (callM lenG (consM (op2M idxG (varM 0) (cM (.int 1))) nilM)) (cM (.int 400)))) (retM (cM (.bl false))) passM)
 (retM (andM (callM allG (consM (frzM (lcM (seqI (op2M idxG (varM 0) (cM (.int 1)))) [2] [2] nameT tYesM (callM x_is_edge (consM (varM 2) (consM (callM lenG (consM (op2M idxG (varM 0) (cM (.int 0))) nilM)) nilM))))) nilM)) (callM x_is_rising (consM (op2M idxG (varM 0) (cM (.int 1))) nilM)))))))
def x_is_graph : DL.Fn := subM (bodyM 3 b_is_graph)
theorem ok_is_graph (G : Gf P w M mg base cc pa) : FOk P w M mg base 3 "is_graph" (top 16) ["value"] x_is_graph := by
  obtain ⟨fd, hF⟩ := G.e_is_graph
  have S : FnScope ["value", "marks", "edge"] ["value"] (C8.fnScope (top 16)) := ⟨rfl, rfl, rfl, by decide +kernel, rfl, by decide +kernel, by decide +kernel⟩
  have F : FOk P w M mg base 3 "is_graph" (top 16) ["value"] (bodyM 3 b_is_graph) := ⟨_, fd, hF, fn_dl hF S (fun X cdv A outer s H E hX B O => ?_), G.d_is_graph, hF.bindsN fun _ _ _ _ _ _ us hl => match us, hl with | [_], _ => rfl⟩
  · exact F.sub G.mo
  exact (dss_cons (ds_if (DW.t (dw_or (dt_not (de_tst (de_isi .tuple G.f_isinstance G.f_tuple boot_tuple (de_var 0)))) (dw_or (dt_c (cm_neG B.units) (de_b c_len G.f_len boot_len (da_cons (de_var 0) da_nil)) de_int) (dw_or1 (dt_not (de_tst (de_isi .tuple G.f_isinstance G.f_tuple boot_tuple (de_idx (de_var 0) de_int)))))))) (dss_one (ds_ret de_bl)) dss_nil)
 (dss_cons (ds_if (DW.t (dw_or (dt_not (dt_ch cm_leG cm_leG de_int (de_b c_len G.f_len boot_len (da_cons (de_idx (de_var 0) de_int) da_nil)) (de_gint G.g_MOST_NODES))) (dw_or1 (dt_not (de_tst (de_b (c_all B.calm) G.f_all boot_all (da_cons (DF.frz (df_lcB [("marks", 1)] B (di_seq (de_idx (de_var 0) de_int)) rfl (tg_name 1) (by decide) (fun s H C cl fp B1 => (pg_name B1.nd rfl (by first | exact Or.inl rfl | exact Or.inr rfl))) (fun s H C cl fp B1 => dts_nil) (fun s H C cl fp B1 => (de_call B1 (ok_are_names G) (da_cons (de_var 1) da_nil))))) da_nil))))))) (dss_one (ds_ret de_bl)) dss_nil)
 (dss_cons (ds_if (DW.t (dw_or (dt_not (de_tst (de_isi .tuple G.f_isinstance G.f_tuple boot_tuple (de_idx (de_var 0) de_int)))) (dw_or1 (dt_c cm_gtG (de_b c_len G.f_len boot_len (da_cons (de_idx (de_var 0) de_int) da_nil)) (de_gint G.g_MOST_EDGES))))) (dss_one (ds_ret de_bl)) dss_nil)
 (dss_one (ds_ret (de_and (de_b (c_all B.calm) G.f_all boot_all (da_cons (DF.frz (df_lcB [("edge", 2)] B (di_seq (de_idx (de_var 0) de_int)) rfl (tg_name 2) (by decide) (fun s H C cl fp B2 => (pg_name B2.nd rfl (by first | exact Or.inl rfl | exact Or.inr rfl))) (fun s H C cl fp B2 => dts_nil) (fun s H C cl fp B2 => (de_call B2 (ok_is_edge G) (da_cons (de_var 2) (da_cons (de_b c_len G.f_len boot_len (da_cons (de_idx (de_var 0) de_int) da_nil)) da_nil)))))) da_nil)) (de_one (de_call B (ok_is_rising G) (da_cons (de_idx (de_var 0) de_int) da_nil)))))))))
def b_look_at_graph : FM :=
 (ifS (notB (tstM (callM x_is_graph (consM (varM 0) nilM)))) (raiM 1 (varM 0)) passM)
def x_look_at_graph : DL.Fn := subM (bodyM 1 b_look_at_graph)
theorem ok_look_at_graph (G : Gf P w M mg base cc pa) : FOk P w M mg base 4 "look_at_graph" (top 17) ["graph"] x_look_at_graph := by
  obtain ⟨fd, hF⟩ := G.e_look_at_graph
  have S : FnScope ["graph"] ["graph"] (C8.fnScope (top 17)) := ⟨rfl, rfl, rfl, by decide +kernel, rfl, by decide +kernel, by decide +kernel⟩
  have F : FOk P w M mg base 4 "look_at_graph" (top 17) ["graph"] (bodyM 1 b_look_at_graph) := ⟨_, fd, hF, fn_dl hF S (fun X cdv A outer s H E hX B O => ?_), G.d_look_at_graph, hF.bindsN fun _ _ _ _ _ _ us hl => match us, hl with | [_], _ => rfl⟩
  · exact F.sub G.mo
  exact (dss_one (ds_if (dt_not (de_tst (de_call B (ok_is_graph G) (da_cons (de_var 0) da_nil)))) (dss_one (ds_raise B G.x_BadGraph (de_var 0))) dss_nil))
def b_told_number : FM :=
 (seqM (ifS (orB (notB (chB leG leG (cM (.int 1)) (callM lenG (consM (varM 0) nilM)) (cM (.int 3)))) (notB (tstM (callM allG (consM (frzM (lcM (seqI (varM 0)) [2] [2] nameT tYesM (valM (cmpB inG (varM 2) (cM (.str "0123456789")))))) nilM))))) (retM (cM .non)) passM)
 (seqM (ifS (andB (cmpB gtG (callM lenG (consM (varM 0) nilM)) (cM (.int 1))) (cmpB eqG (op2M idxG (varM 0) (cM (.int 0))) (cM (.str "0")))) (retM (cM .non)) passM)
 (seqM (setM 1 (cM (.int 0)))
 (seqM (forM (seqI (varM 0)) [2] nameT (setM 1 (op2M addA (op2M mulG (cM (.int 10)) (varM 1)) (sm1 sindG (cM (.str "0123456789")) (varM 2)))))
 (retM (varM 1))))))
def x_told_number : DL.Fn := subM (bodyM 3 b_told_number)
theorem ok_told_number (G : Gf P w M mg base cc pa) : FOk P w M mg base 1 "told_number" (top 21) ["word"] x_told_number := by
  obtain ⟨fd, hF⟩ := G.e_told_number
  have S : FnScope ["word", "found", "sign"] ["word"] (C8.fnScope (top 21)) := ⟨rfl, rfl, rfl, by decide +kernel, rfl, by decide +kernel, by decide +kernel⟩
  have F : FOk P w M mg base 1 "told_number" (top 21) ["word"] (bodyM 3 b_told_number) := ⟨_, fd, hF, fn_dl hF S (fun X cdv A outer s H E hX B O => ?_), G.d_told_number, hF.bindsN fun _ _ _ _ _ _ us hl => match us, hl with | [_], _ => rfl⟩
  · exact F.sub G.mo
  exact (dss_cons (ds_if (DW.t (dw_or (dt_not (dt_ch cm_leG cm_leG de_int (de_b c_len G.f_len boot_len (da_cons (de_var 0) da_nil)) (de_gint G.g_MOST_FIGURES))) (dw_or1 (dt_not (de_tst (de_b (c_all B.calm) G.f_all boot_all (da_cons (DF.frz (df_lcB [("sign", 2)] B (di_seq (de_var 0)) rfl (tg_name 2) (by decide) (fun s H C cl fp B1 => (pg_name B1.nd rfl (by first | exact Or.inl rfl | exact Or.inr rfl))) (fun s H C cl fp B1 => dts_nil) (fun s H C cl fp B1 => (de_c cm_inG (de_var 2) (de_gstr G.g_DIGITS))))) da_nil))))))) (dss_one (ds_ret de_non)) dss_nil)
 (dss_cons (ds_if (DW.t (dw_and (dt_c cm_gtG (de_b c_len G.f_len boot_len (da_cons (de_var 0) da_nil)) de_int) (dw_and1 (dt_c (cm_eqG B.units) (de_idx (de_var 0) de_int) de_str)))) (dss_one (ds_ret de_non)) dss_nil)
 (dss_cons (ds_set 1 B.nd de_int)
 (dss_cons (ds_for O B.calm (di_seq (de_var 0)) (tg_name 2) (pg_name B.nd rfl (by first | exact Or.inl rfl | exact Or.inr rfl)) (dss_one (ds_set 1 B.nd (de_add (de_o op_mulG de_int (de_var 1)) (de_sindex (de_gstr G.g_DIGITS) (de_var 2))))))
 (dss_one (ds_ret (de_var 1)))))))
def b_told_marks : FM :=
 (seqM (ifS (orB (notB (tstM (callM allG (consM (frzM (lcM (seqI (varM 0)) [1] [1] nameT tYesM (callM x_is_name (consM (varM 1) nilM)))) nilM)))) (cmpB neG (frzM (callM lstCF (consM (varM 0) nilM))) (frzM (sosM (varM 0))))) (retM (cM .non)) passM)
 (retM (callM tupCG (consM (varM 0) nilM))))
def x_told_marks : DL.Fn := subM (bodyM 2 b_told_marks)
theorem ok_told_marks (G : Gf P w M mg base cc pa) : FOk P w M mg base 2 "told_marks" (top 22) ["words"] x_told_marks := by
  obtain ⟨fd, hF⟩ := G.e_told_marks
  have S : FnScope ["words", "word"] ["words"] (C8.fnScope (top 22)) := ⟨rfl, rfl, rfl, by decide +kernel, rfl, by decide +kernel, by decide +kernel⟩
  have F : FOk P w M mg base 2 "told_marks" (top 22) ["words"] (bodyM 2 b_told_marks) := ⟨_, fd, hF, fn_dl hF S (fun X cdv A outer s H E hX B O => ?_), G.d_told_marks, hF.bindsN fun _ _ _ _ _ _ us hl => match us, hl with | [_], _ => rfl⟩
  · exact F.sub G.mo
  exact (dss_cons (ds_if (DW.t (dw_or (dt_not (de_tst (de_b (c_all B.calm) G.f_all boot_all (da_cons (DF.frz (df_lcB [("word", 1)] B (di_seq (de_var 0)) rfl (tg_name 1) (by decide) (fun s H C cl fp B1 => (pg_name B1.nd rfl (by first | exact Or.inl rfl | exact Or.inr rfl))) (fun s H C cl fp B1 => dts_nil) (fun s H C cl fp B1 => (de_call B1 (ok_is_name G) (da_cons (de_var 1) da_nil))))) da_nil)))) (dw_or1 (dt_c (cm_neG B.units) (DF.frz (df_t c_lst G.f_list boot_list (da_cons (de_var 0) da_nil))) (DF.frz (df_sos B.calm G.f_sorted G.f_set (de_var 0))))))) (dss_one (ds_ret de_non)) dss_nil)
 (dss_one (ds_ret (de_t c_tup G.f_tuple boot_tuple (da_cons (de_var 0) da_nil)))))
def b_told_lines : FM :=
 (seqM (setM 1 (ownM (lcM (seqI (op2M idxG (varM 0) (cM (.int 0)))) [2] [2] nameT tYesM (sm1 joinG (cM (.str " ")) (frzM (lstM (consM (cM (.str "node")) (starM (varM 2) nilM))))))))
 (seqM (expM (extM (varM 1) (frzM (lcM (seqI (op2M idxG (varM 0) (cM (.int 1)))) [3, 4, 5] [3, 4, 5] (tupT (moreT nameT (moreT nameT (moreT nameT noT)))) tYesM (sm1 joinG (cM (.str " ")) (frzM (lstM (consM (cM (.str "edge")) (consM (callM strCG (consM (varM 3) nilM)) (consM (varM 4) (consM (callM strCG (consM (varM 5) nilM)) nilM)))))))))))
 (retM (varM 1))))
def x_told_lines : DL.Fn := subM (bodyM 6 b_told_lines)
theorem ok_told_lines (G : Gf P w M mg base cc pa) : FOk P w M mg base 1 "told_lines" (top 24) ["graph"] x_told_lines := by
  obtain ⟨fd, hF⟩ := G.e_told_lines
  have S : FnScope ["graph", "found", "marks", "one", "label", "other"] ["graph"] (C8.fnScope (top 24)) := ⟨rfl, rfl, rfl, by decide +kernel, rfl, by decide +kernel, by decide +kernel⟩
  have F : FOk P w M mg base 1 "told_lines" (top 24) ["graph"] (bodyM 6 b_told_lines) := ⟨_, fd, hF, fn_dl hF S (fun X cdv A outer s H E hX B O => ?_), G.d_told_lines, hF.bindsN fun _ _ _ _ _ _ us hl => match us, hl with | [_], _ => rfl⟩
  · exact F.sub G.mo
  exact (dss_cons (ds_lcB 1 [("marks", 2)] (fz := ownM) rd_own B (di_seq (de_idx (de_var 0) de_int)) rfl (tg_name 2) (by decide) (fun s H C cl fp B1 => (pg_name B1.nd rfl (by first | exact Or.inl rfl | exact Or.inr rfl))) (fun s H C cl fp B1 => dts_nil) (fun s H C cl fp B1 => (de_join de_str (DF.frz (df_lst (da_cons de_str (da_star (de_var 2) da_nil)))))))
 (dss_cons (ds_expr (de_extend (de_var 1) (DF.frz (df_lcB [("one", 3), ("label", 4), ("other", 5)] B (di_seq (de_idx (de_var 0) de_int)) rfl (tg_tup (tgs_cons (tg_name 3) (tgs_cons (tg_name 4) (tgs_cons (tg_name 5) tgs_nil)))) (by decide) (fun s H C cl fp B2 => (pg_tup B2.calm (pgs_cons (pg_name B2.nd rfl (by first | exact Or.inl rfl | exact Or.inr rfl)) (pgs_cons (pg_name B2.nd rfl (by first | exact Or.inl rfl | exact Or.inr rfl)) (pgs_cons (pg_name B2.nd rfl (by first | exact Or.inl rfl | exact Or.inr rfl)) pgs_nil))))) (fun s H C cl fp B2 => dts_nil) (fun s H C cl fp B2 => (de_join de_str (DF.frz (df_lst (da_cons de_str (da_cons (de_t c_str G.f_str boot_str (da_cons (de_var 3) da_nil)) (da_cons (de_var 4) (da_cons (de_t c_str G.f_str boot_str (da_cons (de_var 5) da_nil)) da_nil))))))))))))
 (dss_one (ds_ret (de_var 1)))))
def b_print_graph : FM :=
 (seqM (expM (callM x_look_at_graph (consM (varM 0) nilM)))
 (retM (sm1 joinG (cM (.str "\n")) (callM x_told_lines (consM (varM 0) nilM)))))
def x_print_graph : DL.Fn := subM (bodyM 1 b_print_graph)
theorem ok_print_graph (G : Gf P w M mg base cc pa) : FOk P w M mg base 5 "print_graph" (top 25) ["graph"] x_print_graph := by
  obtain ⟨fd, hF⟩ := G.e_print_graph
  have S : FnScope ["graph"] ["graph"] (C8.fnScope (top 25)) := ⟨rfl, rfl, rfl, by decide +kernel, rfl, by decide +kernel, by decide +kernel⟩
  have F : FOk P w M mg base 5 "print_graph" (top 25) ["graph"] (bodyM 1 b_print_graph) := ⟨_, fd, hF, fn_dl hF S (fun X cdv A outer s H E hX B O => ?_), G.d_print_graph, hF.bindsN fun _ _ _ _ _ _ us hl => match us, hl with | [_], _ => rfl⟩
  · exact F.sub G.mo
  exact (dss_cons (ds_expr (de_call B (ok_look_at_graph G) (da_cons (de_var 0) da_nil)))
 (dss_one (ds_ret (de_join de_str (de_call B (ok_told_lines G) (da_cons (de_var 0) da_nil))))))
def b_told_edge : FM :=
 (seqM (ifS (orB (cmpB neG (callM lenG (consM (varM 0) nilM)) (op2M addA (cM (.int 2)) (cM (.int 2)))) (notB (tstM (callM x_is_name (consM (op2M idxG (varM 0) (cM (.int 2))) nilM))))) (retM (cM .non)) passM)
 (seqM (parM 1 2 (consM (callM x_told_number (consM (op2M idxG (varM 0) (cM (.int 1))) nilM)) (consM (callM x_told_number (consM (op2M idxG (varM 0) (negM (cM (.int 1)))) nilM)) nilM)))
 (retM (ifM (andB (cmpB nisG (varM 1) (cM .non)) (cmpB nisG (varM 2) (cM .non))) (tupM (consM (varM 1) (consM (op2M idxG (varM 0) (cM (.int 2))) (consM (varM 2) nilM)))) (cM .non)))))
def x_told_edge : DL.Fn := subM (bodyM 3 b_told_edge)
theorem ok_told_edge (G : Gf P w M mg base cc pa) : FOk P w M mg base 2 "told_edge" (top 26) ["words"] x_told_edge := by
  obtain ⟨fd, hF⟩ := G.e_told_edge
  have S : FnScope ["words", "one", "other"] ["words"] (C8.fnScope (top 26)) := ⟨rfl, rfl, rfl, by decide +kernel, rfl, by decide +kernel, by decide +kernel⟩
  have F : FOk P w M mg base 2 "told_edge" (top 26) ["words"] (bodyM 3 b_told_edge) := ⟨_, fd, hF, fn_dl hF S (fun X cdv A outer s H E hX B O => ?_), G.d_told_edge, hF.bindsN fun _ _ _ _ _ _ us hl => match us, hl with | [_], _ => rfl⟩
  · exact F.sub G.mo
  exact (dss_cons (ds_if (DW.t (dw_or (dt_c (cm_neG B.units) (de_b c_len G.f_len boot_len (da_cons (de_var 0) da_nil)) (de_add de_int de_int)) (dw_or1 (dt_not (de_tst (de_call B (ok_is_name G) (da_cons (de_idx (de_var 0) de_int) da_nil))))))) (dss_one (ds_ret de_non)) dss_nil)
 (dss_cons (ds_par 1 2 B.calm B.nd (da_cons (de_call B (ok_told_number G) (da_cons (de_idx (de_var 0) de_int) da_nil)) (da_cons (de_call B (ok_told_number G) (da_cons (de_idx (de_var 0) (de_neg de_int)) da_nil)) da_nil)))
 (dss_one (ds_ret (de_ifExp (DW.t (dw_and (dt_c cm_nisG (de_var 1) de_non) (dw_and1 (dt_c cm_nisG (de_var 2) de_non)))) (de_tup (da_cons (de_var 1) (da_cons (de_idx (de_var 0) de_int) (da_cons (de_var 2) da_nil)))) de_non)))))
def b_told_row : FM :=
 (seqM (setM 3 (frzM (sm1F splitG (varM 2) (cM (.str " ")))))
 (seqM (ifS (andB (cmpB eqG (op2M idxG (varM 3) (cM (.int 0))) (cM (.str "node"))) (cmpB eqG (varM 1) (frzM (lstM nilM)))) (seqM (setM 4 (callM x_told_marks (consM (sliM sliG (varM 3) (partM (cM (.int 1))) noneM) nilM)))
 (seqM (ifS (orB (cmpB isG (varM 4) (cM .non)) (cmpB eqG (callM lenG (consM (varM 0) nilM)) (cM (.int 60)))) (retM (cM (.bl false))) passM)
 (seqM (expM (appM (varM 0) (varM 4)))
 (retM (cM (.bl true)))))) passM)
 (seqM (setM 5 (ifM (cmpB eqG (op2M idxG (varM 3) (cM (.int 0))) (cM (.str "edge"))) (callM x_told_edge (consM (varM 3) nilM)) (cM .non)))
 (seqM (ifS (orB (cmpB isG (varM 5) (cM .non)) (notB (tstM (callM allG (consM (frzM (lcM (seqI (tupM (consM (op2M idxG (varM 5) (cM (.int 0))) (consM (op2M idxG (varM 5) (cM (.int 2))) nilM)))) [6] [6] nameT tYesM (valM (cmpB ltX (varM 6) (callM lenG (consM (varM 0) nilM)))))) nilM))))) (retM (cM (.bl false))) passM)
 (seqM (ifS (orB (andB (cmpB neG (varM 1) (frzM (lstM nilM))) (cmpB leX (varM 5) (op2M idxG (varM 1) (negM (cM (.int 1)))))) (cmpB eqG (callM lenG (consM (varM 1) nilM)) (cM (.int 400)))) (retM (cM (.bl false))) passM)
 (seqM (expM (appM (varM 1) (varM 5)))
 (retM (cM (.bl true)))))))))
def x_told_row : DL.Fn := subM (bodyM 7 b_told_row)
theorem ok_told_row (G : Gf P w M mg base cc pa) : FOk P w M mg base 3 "told_row" (top 27) ["marks", "edges", "line"] x_told_row := by
  obtain ⟨fd, hF⟩ := G.e_told_row
  have S : FnScope ["marks", "edges", "line", "words", "some", "edge", "node"] ["marks", "edges", "line"] (C8.fnScope (top 27)) := ⟨rfl, rfl, rfl, by decide +kernel, rfl, by decide +kernel, by decide +kernel⟩
  have F : FOk P w M mg base 3 "told_row" (top 27) ["marks", "edges", "line"] (bodyM 7 b_told_row) := ⟨_, fd, hF, fn_dl hF S (fun X cdv A outer s H E hX B O => ?_), G.d_told_row, hF.bindsN fun _ _ _ _ _ _ us hl => match us, hl with | [_, _, _], _ => rfl⟩
  · exact F.sub G.mo
  exact (dss_cons (ds_set 3 B.nd (DF.frz (df_split (de_var 2) de_str)))
 (dss_cons (ds_if (DW.t (dw_and (dt_c (cm_eqG B.units) (de_idx (de_var 3) de_int) de_str) (dw_and1 (dt_c (cm_eqG B.units) (de_var 1) (DF.frz (df_lst da_nil)))))) (dss_cons (ds_set 4 B.nd (de_call B (ok_told_marks G) (da_cons (de_sli (de_var 3) (do_some de_int) do_none) da_nil)))
 (dss_cons (ds_if (DW.t (dw_or (dt_c cm_isG (de_var 4) de_non) (dw_or1 (dt_c (cm_eqG B.units) (de_b c_len G.f_len boot_len (da_cons (de_var 0) da_nil)) (de_gint G.g_MOST_NODES))))) (dss_one (ds_ret de_bl)) dss_nil)
 (dss_cons (ds_expr (de_append (de_var 0) (de_var 4)))
 (dss_one (ds_ret de_bl))))) dss_nil)
 (dss_cons (ds_set 5 B.nd (de_ifExp (dt_c (cm_eqG B.units) (de_idx (de_var 3) de_int) de_str) (de_call B (ok_told_edge G) (da_cons (de_var 3) da_nil)) de_non))
 (dss_cons (ds_if (DW.t (dw_or (dt_c cm_isG (de_var 5) de_non) (dw_or1 (dt_not (de_tst (de_b (c_all B.calm) G.f_all boot_all (da_cons (DF.frz (df_lcB [("node", 6)] B (di_seq (de_tup (da_cons (de_idx (de_var 5) de_int) (da_cons (de_idx (de_var 5) de_int) da_nil)))) rfl (tg_name 6) (by decide) (fun s H C cl fp B1 => (pg_name B1.nd rfl (by first | exact Or.inl rfl | exact Or.inr rfl))) (fun s H C cl fp B1 => dts_nil) (fun s H C cl fp B1 => (de_c (cm_ltX B1.units) (de_var 6) (de_b c_len G.f_len boot_len (da_cons (de_var 0) da_nil)))))) da_nil))))))) (dss_one (ds_ret de_bl)) dss_nil)
 (dss_cons (ds_if (DW.t (dw_or (DW.t (dw_and (dt_c (cm_neG B.units) (de_var 1) (DF.frz (df_lst da_nil))) (dw_and1 (dt_c (cm_leX B.units) (de_var 5) (de_idx (de_var 1) (de_neg de_int)))))) (dw_or1 (dt_c (cm_eqG B.units) (de_b c_len G.f_len boot_len (da_cons (de_var 1) da_nil)) (de_gint G.g_MOST_EDGES))))) (dss_one (ds_ret de_bl)) dss_nil)
 (dss_cons (ds_expr (de_append (de_var 1) (de_var 5)))
 (dss_one (ds_ret de_bl))))))))
def b_read_graph : FM :=
 (seqM (ifS (notB (tstM (isiM .str (varM 0)))) (raiM 2 (varM 0)) passM)
 (seqM (parM 1 2 (consM (ownM (lstM nilM)) (consM (ownM (lstM nilM)) nilM)))
 (seqM (forM (callI enuI (consM (frzM (sm1F splitG (varM 0) (cM (.str "\n")))) nilM)) [3, 4] (tupT (moreT nameT (moreT nameT noT))) (ifS (notB (tstM (callM x_told_row (consM (varM 1) (consM (varM 2) (consM (varM 4) nilM)))))) (raiM 3 (tupM (consM (op2M addA (varM 3) (cM (.int 1))) (consM (ifM (cmpB neG (varM 1) (frzM (lstM nilM))) (cM (.str "edge")) (cM (.str "node"))) nilM)))) passM))
 (retM (tupM (consM (callM tupCG (consM (varM 1) nilM)) (consM (callM tupCG (consM (varM 2) nilM)) nilM)))))))
def x_read_graph : DL.Fn := subM (bodyM 5 b_read_graph)
theorem ok_read_graph (G : Gf P w M mg base cc pa) : FOk P w M mg base 4 "read_graph" (top 28) ["text"] x_read_graph := by
  obtain ⟨fd, hF⟩ := G.e_read_graph
  have S : FnScope ["text", "marks", "edges", "at", "line"] ["text"] (C8.fnScope (top 28)) := ⟨rfl, rfl, rfl, by decide +kernel, rfl, by decide +kernel, by decide +kernel⟩
  have F : FOk P w M mg base 4 "read_graph" (top 28) ["text"] (bodyM 5 b_read_graph) := ⟨_, fd, hF, fn_dl hF S (fun X cdv A outer s H E hX B O => ?_), G.d_read_graph, hF.bindsN fun _ _ _ _ _ _ us hl => match us, hl with | [_], _ => rfl⟩
  · exact F.sub G.mo
  exact (dss_cons (ds_if (dt_not (de_tst (de_isi .str G.f_isinstance G.f_str boot_str (de_var 0)))) (dss_one (ds_raise B G.x_BadText (de_var 0))) dss_nil)
 (dss_cons (ds_par 1 2 B.calm B.nd (da_cons (DF.own (df_lst da_nil)) (da_cons (DF.own (df_lst da_nil)) da_nil)))
 (dss_cons (ds_for O B.calm (di_enu (da_cons (DF.frz (df_split (de_var 0) de_str)) da_nil) G.f_enumerate) (tg_tup (tgs_cons (tg_name 3) (tgs_cons (tg_name 4) tgs_nil))) (pg_tup B.calm (pgs_cons (pg_name B.nd rfl (by first | exact Or.inl rfl | exact Or.inr rfl)) (pgs_cons (pg_name B.nd rfl (by first | exact Or.inl rfl | exact Or.inr rfl)) pgs_nil))) (dss_one (ds_if (dt_not (de_tst (de_call B (ok_told_row G) (da_cons (de_var 1) (da_cons (de_var 2) (da_cons (de_var 4) da_nil)))))) (dss_one (ds_raise B G.x_NotRead (de_tup (da_cons (de_add (de_var 3) de_int) (da_cons (de_ifExp (dt_c (cm_neG B.units) (de_var 1) (DF.frz (df_lst da_nil))) de_str de_str) da_nil))))) dss_nil)))
 (dss_one (ds_ret (de_tup (da_cons (de_t c_tup G.f_tuple boot_tuple (da_cons (de_var 1) da_nil)) (da_cons (de_t c_tup G.f_tuple boot_tuple (da_cons (de_var 2) da_nil)) da_nil))))))))
def b_can_be_read_as_graph : FM :=
 (seqM (ifS (notB (tstM (isiM .str (varM 0)))) (retM (cM (.bl false))) passM)
 (tryM [false, false, false, true] (retM (callM x_is_graph (consM (callM x_read_graph (consM (varM 0) nilM)) nilM))) (fun _ => noErM (retM (cM (.bl false))))))
def x_can_be_read_as_graph : DL.Fn := subM (bodyM 1 b_can_be_read_as_graph)
theorem ok_can_be_read_as_graph (G : Gf P w M mg base cc pa) : FOk P w M mg base 5 "can_be_read_as_graph" (top 29) ["text"] x_can_be_read_as_graph := by
  obtain ⟨fd, hF⟩ := G.e_can_be_read_as_graph
  have S : FnScope ["text"] ["text"] (C8.fnScope (top 29)) := ⟨rfl, rfl, rfl, by decide +kernel, rfl, by decide +kernel, by decide +kernel⟩
  have F : FOk P w M mg base 5 "can_be_read_as_graph" (top 29) ["text"] (bodyM 1 b_can_be_read_as_graph) := ⟨_, fd, hF, fn_dl hF S (fun X cdv A outer s H E hX B O => ?_), G.d_can_be_read_as_graph, hF.bindsN fun _ _ _ _ _ _ us hl => match us, hl with | [_], _ => rfl⟩
  · exact F.sub G.mo
  exact (dss_cons (ds_if (dt_not (de_tst (de_isi .str G.f_isinstance G.f_str boot_str (de_var 0)))) (dss_one (ds_ret de_bl)) dss_nil)
 (dss_one (ds_tryOnly [false, false, false, true] B ⟨rfl, by decide, .inl G.c_NotRead⟩ G.t_NotRead (fun W1 pn xe B1 O1 => (dss_one (ds_ret (de_call B1 (ok_is_graph G) (da_cons (de_call B1 (ok_read_graph G) (da_cons (de_var 0) da_nil)) da_nil))))) (fun _ _ => (dss_one (ds_ret de_bl))))))
def b__law_pot : FM :=
 (seqM (setM 2 (ifM (cmpB ltG (varM 1) (callM lenG (consM (varM 0) nilM))) (op2M idxG (varM 0) (varM 1)) (op2M addA (op2M addA (op2M modG (callM intCG (consM (callM sumG (consM (sliM sliG (varM 0) noneM (partM (cM (.int 1)))) nilM)) nilM)) (cM (.int 1000211))) (op2M mulG (cM (.int 4639)) (varM 1))) (cM (.int 3163)))))
 (seqM (setM 3 (op2M mulG (op2M modG (callM intCG (consM (callM absG (consM (varM 2) nilM)) nilM)) (op2M powG (op2M powG (cM (.int 10)) (cM (.int 60))) (cM (.int 5)))) (callM intCG (consM (valM (cmpB geG (callM absG (consM (varM 2) nilM)) (op2M powG (cM (.int 10)) (cM (.int 18))))) nilM))))
 (seqM (setM 4 (op2M modG (callM intCG (consM (varM 2) nilM)) (cM (.int 2305843009213693951))))
 (retM (ownM (lstM (consM (varM 3) (consM (op2M modG (callM intCG (consM (op2M addA (op2M addA (op2M mulG (varM 4) (cM (.int 72161))) (op2M mulG (op2M mulG (cM (.int 10853)) (varM 1)) (varM 1))) (cM (.int 2843))) nilM)) (cM (.int 2305843009213693921))) (consM (cM (.int 0)) nilM)))))))))
def x__law_pot : DL.Fn := (bodyM 5 b__law_pot)
theorem ok__law_pot (G : Gf P w M mg base cc pa) : FOk P w M mg base 1 "_law_pot" (top 31) ["script", "place"] x__law_pot := by
  obtain ⟨fd, hF⟩ := G.e__law_pot
  have S : FnScope ["script", "place", "cell", "own", "small"] ["script", "place"] (C8.fnScope (top 31)) := ⟨rfl, rfl, rfl, by decide +kernel, rfl, by decide +kernel, by decide +kernel⟩
  have F : FOk P w M mg base 1 "_law_pot" (top 31) ["script", "place"] (bodyM 5 b__law_pot) := ⟨_, fd, hF, fn_dl hF S (fun X cdv A outer s H E hX B O => ?_), G.d__law_pot, hF.bindsN fun _ _ _ _ _ _ us hl => match us, hl with | [_, _], _ => rfl⟩
  · exact F
  exact (dss_cons (ds_set 2 B.nd (de_ifExp (dt_c cm_ltG (de_var 1) (de_b c_len G.f_len boot_len (da_cons (de_var 0) da_nil))) (de_idx (de_var 0) (de_var 1)) (de_add (de_add (de_o op_modG (de_t c_int G.f_int boot_int (da_cons (de_b (c_sum B.calm) G.f_sum boot_sum (da_cons (de_sli (de_var 0) do_none (do_some de_int)) da_nil)) da_nil)) de_int) (de_o op_mulG de_int (de_var 1))) de_int)))
 (dss_cons (ds_set 3 B.nd (de_o op_mulG (de_o op_modG (de_t c_int G.f_int boot_int (da_cons (de_b c_abs G.f_abs boot_abs (da_cons (de_var 2) da_nil)) da_nil)) (de_o op_powG (de_o op_powG de_int de_int) de_int)) (de_t c_int G.f_int boot_int (da_cons (de_c cm_geG (de_b c_abs G.f_abs boot_abs (da_cons (de_var 2) da_nil)) (de_o op_powG de_int de_int)) da_nil))))
 (dss_cons (ds_set 4 B.nd (de_o op_modG (de_t c_int G.f_int boot_int (da_cons (de_var 2) da_nil)) de_int))
 (dss_one (ds_ret (DF.own (df_lst (da_cons (de_var 3) (da_cons (de_o op_modG (de_t c_int G.f_int boot_int (da_cons (de_add (de_add (de_o op_mulG (de_var 4) de_int) (de_o op_mulG (de_o op_mulG de_int (de_var 1)) (de_var 1))) de_int) da_nil)) de_int) (da_cons de_int da_nil))))))))))
def b__law_take : FM :=
 (seqM (ifS (cmpB gtG (op2M idxG (varM 0) (cM (.int 0))) (cM (.int 0))) (seqM (setM 2 (op2M modG (callM intCG (consM (op2M idxG (varM 0) (cM (.int 0))) nilM)) (varM 1)))
 (seqM (stoM (op2M divG (op2M idxG (varM 0) (cM (.int 0))) (varM 1)) (varM 0) (cM (.int 0)))
 (retM (varM 2)))) passM)
 (seqM (stoM (op2M addA (op2M idxG (varM 0) (cM (.int 2))) (cM (.int 1))) (varM 0) (cM (.int 2)))
 (seqM (setM 3 (op2M idxG (frzM (lstM (consM (cM (.int 2147483647)) (consM (cM (.int 2147483629)) (consM (cM (.int 2147483587)) (consM (cM (.int 2147483579)) (consM (cM (.int 2147483563)) nilM))))))) (op2M modG (callM intCG (consM (op2M idxG (varM 0) (cM (.int 2))) nilM)) (cM (.int 5)))))
 (seqM (setM 4 (op2M modG (callM intCG (consM (op2M powG (callM intCG (consM (op2M addA (op2M addA (op2M idxG (varM 0) (cM (.int 1))) (op2M mulG (op2M mulG (cM (.int 95257)) (op2M idxG (varM 0) (cM (.int 2)))) (op2M idxG (varM 0) (cM (.int 2))))) (cM (.int 3163))) nilM)) (cM (.int 3))) nilM)) (varM 3)))
 (seqM (setM 4 (op2M modG (callM intCG (consM (op2M mulG (varM 4) (op2M addA (op2M modG (callM intCG (consM (varM 4) nilM)) (cM (.int 13441))) (op2M mulG (cM (.int 419)) (op2M idxG (varM 0) (cM (.int 2)))))) nilM)) (cM (.int 2305843009213693907))))
 (retM (op2M modG (callM intCG (consM (op2M divG (varM 4) (cM (.int 229))) nilM)) (varM 1))))))))
def x__law_take : DL.Fn := subM (bodyM 5 b__law_take)
theorem ok__law_take (G : Gf P w M mg base cc pa) : FOk P w M mg base 1 "_law_take" (top 32) ["pot", "upto"] x__law_take := by
  obtain ⟨fd, hF⟩ := G.e__law_take
  have S : FnScope ["pot", "upto", "digit", "prime", "mixture"] ["pot", "upto"] (C8.fnScope (top 32)) := ⟨rfl, rfl, rfl, by decide +kernel, rfl, by decide +kernel, by decide +kernel⟩
  have F : FOk P w M mg base 1 "_law_take" (top 32) ["pot", "upto"] (bodyM 5 b__law_take) := ⟨_, fd, hF, fn_dl hF S (fun X cdv A outer s H E hX B O => ?_), G.d__law_take, hF.bindsN fun _ _ _ _ _ _ us hl => match us, hl with | [_, _], _ => rfl⟩
  · exact F.sub G.mo
  exact (dss_cons (ds_if (dt_c cm_gtG (de_idx (de_var 0) de_int) de_int) (dss_cons (ds_set 2 B.nd (de_o op_modG (de_t c_int G.f_int boot_int (da_cons (de_idx (de_var 0) de_int) da_nil)) (de_var 1)))
 (dss_cons (ds_sto (de_o op_divG (de_idx (de_var 0) de_int) (de_var 1)) (de_var 0) de_int)
 (dss_one (ds_ret (de_var 2))))) dss_nil)
 (dss_cons (ds_sto (de_add (de_idx (de_var 0) de_int) de_int) (de_var 0) de_int)
 (dss_cons (ds_set 3 B.nd (de_idx (DF.frz (df_lst (da_cons de_int (da_cons de_int (da_cons de_int (da_cons de_int (da_cons de_int da_nil))))))) (de_o op_modG (de_t c_int G.f_int boot_int (da_cons (de_idx (de_var 0) de_int) da_nil)) de_int)))
 (dss_cons (ds_set 4 B.nd (de_o op_modG (de_t c_int G.f_int boot_int (da_cons (de_o op_powG (de_t c_int G.f_int boot_int (da_cons (de_add (de_add (de_idx (de_var 0) de_int) (de_o op_mulG (de_o op_mulG de_int (de_idx (de_var 0) de_int)) (de_idx (de_var 0) de_int))) de_int) da_nil)) de_int) da_nil)) (de_var 3)))
 (dss_cons (ds_set 4 B.nd (de_o op_modG (de_t c_int G.f_int boot_int (da_cons (de_o op_mulG (de_var 4) (de_add (de_o op_modG (de_t c_int G.f_int boot_int (da_cons (de_var 4) da_nil)) de_int) (de_o op_mulG de_int (de_idx (de_var 0) de_int)))) da_nil)) de_int))
 (dss_one (ds_ret (de_o op_modG (de_t c_int G.f_int boot_int (da_cons (de_o op_divG (de_var 4) de_int) da_nil)) (de_var 1)))))))))
def b__law_of : FM :=
 (retM (op2M idxG (varM 1) (callM x__law_take (consM (varM 0) (consM (callM lenG (consM (varM 1) nilM)) nilM)))))
def x__law_of : DL.Fn := subM (bodyM 2 b__law_of)
theorem ok__law_of (G : Gf P w M mg base cc pa) : FOk P w M mg base 2 "_law_of" (top 33) ["pot", "some"] x__law_of := by
  obtain ⟨fd, hF⟩ := G.e__law_of
  have S : FnScope ["pot", "some"] ["pot", "some"] (C8.fnScope (top 33)) := ⟨rfl, rfl, rfl, by decide +kernel, rfl, by decide +kernel, by decide +kernel⟩
  have F : FOk P w M mg base 2 "_law_of" (top 33) ["pot", "some"] (bodyM 2 b__law_of) := ⟨_, fd, hF, fn_dl hF S (fun X cdv A outer s H E hX B O => ?_), G.d__law_of, hF.bindsN fun _ _ _ _ _ _ us hl => match us, hl with | [_, _], _ => rfl⟩
  · exact F.sub G.mo
  exact (dss_one (ds_ret (de_idx (de_var 1) (de_call B (ok__law_take G) (da_cons (de_var 0) (da_cons (de_b c_len G.f_len boot_len (da_cons (de_var 1) da_nil)) da_nil))))))
def b__law_cells : FM :=
 (retM (frzM (callM rngF1 (consM (callM max2G (consM (cM (.int 1)) (consM (callM min2G (consM (varM 1) (consM (callM lenG (consM (varM 0) nilM)) nilM))) nilM))) nilM))))
def x__law_cells : DL.Fn := subM (bodyM 2 b__law_cells)
theorem ok__law_cells (G : Gf P w M mg base cc pa) : FOk P w M mg base 1 "_law_cells" (top 34) ["script", "most"] x__law_cells := by
  obtain ⟨fd, hF⟩ := G.e__law_cells
  have S : FnScope ["script", "most"] ["script", "most"] (C8.fnScope (top 34)) := ⟨rfl, rfl, rfl, by decide +kernel, rfl, by decide +kernel, by decide +kernel⟩
  have F : FOk P w M mg base 1 "_law_cells" (top 34) ["script", "most"] (bodyM 2 b__law_cells) := ⟨_, fd, hF, fn_dl hF S (fun X cdv A outer s H E hX B O => ?_), G.d__law_cells, hF.bindsN fun _ _ _ _ _ _ us hl => match us, hl with | [_, _], _ => rfl⟩
  · exact F.sub G.mo
  exact (dss_one (ds_ret (DF.frz (df_lrng1 (da_cons (de_b (c_max2 B.calm) G.f_max boot_max (da_cons de_int (da_cons (de_b (c_min2 B.calm) G.f_min boot_min (da_cons (de_var 1) (da_cons (de_b c_len G.f_len boot_len (da_cons (de_var 0) da_nil)) da_nil))) da_nil))) da_nil) G.f_list G.f_range B.calm (de_b (c_max2 B.calm) G.f_max boot_max (da_cons de_int (da_cons (de_b (c_min2 B.calm) G.f_min boot_min (da_cons (de_var 1) (da_cons (de_b c_len G.f_len boot_len (da_cons (de_var 0) da_nil)) da_nil))) da_nil)))))))
def y_0 : En → Sto → R D :=
 (callM x_read_graph (consM (varM 0) nilM))
def z_0 : DL.Fn := bodyM 1 (retM y_0)
theorem okz_0 (G : Gf P w M mg base cc pa) : ClOk P w M mg base 5 cd_0 z_0 := by
  have S : NScope cd_0.N [] cd_0.fr cd_0.scope := ⟨rfl, rfl, rfl, by decide +kernel, rfl, by decide +kernel, by decide +kernel, by decide +kernel, by decide +kernel⟩
  refine clo_lam (m := y_0) rfl rfl S (fun _ _ _ _ => rfl) fun cl c f A outer s H E B => ?_
  exact (de_callK0 B (ok_read_graph G) (dk_cons (de_var 0) dk_nil) (ks := ["text"]) (fun _ _ _ _ _ _ us ws h1 h2 => match us, ws, h1, h2 with | [], [_], _, _ => rfl) (lenM_cons lenM_nil))
def y_1 : En → Sto → R D :=
 (callM x_read_graph (consM (varM 0) nilM))
def z_1 : DL.Fn := bodyM 1 (retM y_1)
theorem okz_1 (G : Gf P w M mg base cc pa) : ClOk P w M mg base 5 cd_1 z_1 := by
  have S : NScope cd_1.N [] cd_1.fr cd_1.scope := ⟨rfl, rfl, rfl, by decide +kernel, rfl, by decide +kernel, by decide +kernel, by decide +kernel, by decide +kernel⟩
  refine clo_lam (m := y_1) rfl rfl S (fun _ _ _ _ => rfl) fun cl c f A outer s H E B => ?_
  exact (de_call B (ok_read_graph G) (da_cons (de_var 0) da_nil))
def y_2 : En → Sto → R D :=
 (callM x_print_graph (consM (varM 0) nilM))
def z_2 : DL.Fn := bodyM 1 (retM y_2)
theorem okz_2 (G : Gf P w M mg base cc pa) : ClOk P w M mg base 6 cd_2 z_2 := by
  have S : NScope cd_2.N [] cd_2.fr cd_2.scope := ⟨rfl, rfl, rfl, by decide +kernel, rfl, by decide +kernel, by decide +kernel, by decide +kernel, by decide +kernel⟩
  refine clo_lam (m := y_2) rfl rfl S (fun _ _ _ _ => rfl) fun cl c f A outer s H E B => ?_
  exact (de_call B (ok_print_graph G) (da_cons (de_var 0) da_nil))
def tf__law_heard_call : Nat → Option DL.Fn := noTb
def tc__law_heard_call : Nat → Option DL.Fn := (insT 2 z_2 (insT 1 z_1 (insT 0 z_0 noTb)))
theorem tb__law_heard_call (G : Gf P w M mg base cc pa) : Vals2 P w M mg base 6 0 tf__law_heard_call tc__law_heard_call := (vals2_clo 2 G.clos (okz_2 G) (vals2_clo 1 G.clos (okz_1 G) (vals2_clo 0 G.clos (okz_0 G) vals2_nil)))
def b__law_heard : FM :=
 (seqM (asgM [1, 2] (tupT (moreT nameT (moreT nameT noT))) (tupM (consM (cM .non) (consM (cM .non) nilM))))
 (seqM (tryM [true, true, true, true] (setM 2 (callV tf__law_heard_call tc__law_heard_call 0 nilM)) (keepM 3 1))
 (retM (tupM (consM (varM 1) (consM (varM 2) nilM))))))
def x__law_heard : DL.Fn := subM (bodyM 4 b__law_heard)
theorem ok__law_heard (G : Gf P w M mg base cc pa) : FOk P w M mg base 7 "_law_heard" (top 35) ["call"] x__law_heard := by
  obtain ⟨fd, hF⟩ := G.e__law_heard
  have S : FnScope ["call", "caught", "gave", "error"] ["call"] (C8.fnScope (top 35)) := ⟨rfl, rfl, rfl, by decide +kernel, rfl, by decide +kernel, by decide +kernel⟩
  have F : FOk P w M mg base 7 "_law_heard" (top 35) ["call"] (bodyM 4 b__law_heard) := ⟨_, fd, hF, fn_dl hF S (fun X cdv A outer s H E hX B O => ?_), G.d__law_heard, hF.bindsN fun _ _ _ _ _ _ us hl => match us, hl with | [_], _ => rfl⟩
  · exact F.sub G.mo
  exact (dss_cons (ds_asg (de_tup (da_cons de_non (da_cons de_non da_nil))) (tg_tup (tgs_cons (tg_name 1) (tgs_cons (tg_name 2) tgs_nil))) (pg_tup B.calm (pgs_cons (pg_name B.nd rfl (by first | exact Or.inl rfl | exact Or.inr rfl)) (pgs_cons (pg_name B.nd rfl (by first | exact Or.inl rfl | exact Or.inr rfl)) pgs_nil))))
 (dss_cons (ds_tryKeep 3 1 [true, true, true, true] B ⟨rfl, by decide, .inl G.c_GraphError⟩ G.t_GraphError (fun W1 pn xe B1 O1 => (dss_one (ds_set 2 B1.nd (de_callV0 0 B1 (tb__law_heard_call G))))))
 (dss_one (ds_ret (de_tup (da_cons (de_var 1) (da_cons (de_var 2) da_nil)))))))
def b__law_is_bool : FM :=
 (retM (andM (isiM .bool (varM 0)) (valM (cmpB eqG (varM 0) (varM 1)))))
def x__law_is_bool : DL.Fn := subM (bodyM 2 b__law_is_bool)
theorem ok__law_is_bool (G : Gf P w M mg base cc pa) : FOk P w M mg base 1 "_law_is_bool" (top 36) ["told", "due"] x__law_is_bool := by
  obtain ⟨fd, hF⟩ := G.e__law_is_bool
  have S : FnScope ["told", "due"] ["told", "due"] (C8.fnScope (top 36)) := ⟨rfl, rfl, rfl, by decide +kernel, rfl, by decide +kernel, by decide +kernel⟩
  have F : FOk P w M mg base 1 "_law_is_bool" (top 36) ["told", "due"] (bodyM 2 b__law_is_bool) := ⟨_, fd, hF, fn_dl hF S (fun X cdv A outer s H E hX B O => ?_), G.d__law_is_bool, hF.bindsN fun _ _ _ _ _ _ us hl => match us, hl with | [_, _], _ => rfl⟩
  · exact F.sub G.mo
  exact (dss_one (ds_ret (de_and (de_isi .bool G.f_isinstance G.f_bool boot_bool (de_var 0)) (de_one (de_c (cm_eqG B.units) (de_var 0) (de_var 1))))))
def b__law_marks_drawn : FM :=
 (retM (callM tupCG (consM (frzM (lcM (seqI (varM 1)) [2] [2] nameT (cmpB eqG (callM x__law_take (consM (varM 0) (consM (cM (.int 2)) nilM))) (cM (.int 0))) (varM 2))) nilM)))
def x__law_marks_drawn : DL.Fn := subM (bodyM 3 b__law_marks_drawn)
theorem ok__law_marks_drawn (G : Gf P w M mg base cc pa) : FOk P w M mg base 2 "_law_marks_drawn" (top 37) ["pot", "names"] x__law_marks_drawn := by
  obtain ⟨fd, hF⟩ := G.e__law_marks_drawn
  have S : FnScope ["pot", "names", "name"] ["pot", "names"] (C8.fnScope (top 37)) := ⟨rfl, rfl, rfl, by decide +kernel, rfl, by decide +kernel, by decide +kernel⟩
  have F : FOk P w M mg base 2 "_law_marks_drawn" (top 37) ["pot", "names"] (bodyM 3 b__law_marks_drawn) := ⟨_, fd, hF, fn_dl hF S (fun X cdv A outer s H E hX B O => ?_), G.d__law_marks_drawn, hF.bindsN fun _ _ _ _ _ _ us hl => match us, hl with | [_, _], _ => rfl⟩
  · exact F.sub G.mo
  exact (dss_one (ds_ret (de_t c_tup G.f_tuple boot_tuple (da_cons (DF.frz (df_lcB [("name", 2)] B (di_seq (de_var 1)) rfl (tg_name 2) (by decide) (fun s H C cl fp B1 => (pg_name B1.nd rfl (by first | exact Or.inl rfl | exact Or.inr rfl))) (fun s H C cl fp B1 => (dts_one (dt_c (cm_eqG B1.units) (de_call B1 (ok__law_take G) (da_cons (de_var 0) (da_cons de_int da_nil))) de_int))) (fun s H C cl fp B1 => (de_var 2)))) da_nil))))
def b__law_graph_drawn : FM :=
 (seqM (setM 5 (callM intCG (consM (op2M addA (cM (.int 1)) (callM x__law_take (consM (varM 0) (consM (varM 1) nilM)))) nilM)))
 (seqM (setM 6 (callM tupCG (consM (frzM (lcM (callI rngI1 (consM (varM 5) nilM)) [9] [9] nameT tYesM (callM x__law_marks_drawn (consM (varM 0) (consM (varM 4) nilM))))) nilM)))
 (seqM (setM 7 (ownM (lstM nilM)))
 (seqM (forM (callI rngI1 (consM (callM x__law_take (consM (varM 0) (consM (op2M addA (varM 2) (cM (.int 1))) nilM))) nilM)) [8] nameT (expM (appM (varM 7) (tupM (consM (callM intCG (consM (callM x__law_take (consM (varM 0) (consM (varM 5) nilM))) nilM)) (consM (callM x__law_of (consM (varM 0) (consM (varM 3) nilM))) (consM (callM intCG (consM (callM x__law_take (consM (varM 0) (consM (varM 5) nilM))) nilM)) nilM)))))))
 (retM (tupM (consM (varM 6) (consM (callM tupCG (consM (frzM (soxM (varM 7))) nilM)) nilM))))))))
def x__law_graph_drawn : DL.Fn := subM (bodyM 10 b__law_graph_drawn)
theorem ok__law_graph_drawn (G : Gf P w M mg base cc pa) : FOk P w M mg base 3 "_law_graph_drawn" (top 38) ["pot", "nodes", "edges", "labels", "names"] x__law_graph_drawn := by
  obtain ⟨fd, hF⟩ := G.e__law_graph_drawn
  have S : FnScope ["pot", "nodes", "edges", "labels", "names", "many", "marks", "some", "edge", "node"] ["pot", "nodes", "edges", "labels", "names"] (C8.fnScope (top 38)) := ⟨rfl, rfl, rfl, by decide +kernel, rfl, by decide +kernel, by decide +kernel⟩
  have F : FOk P w M mg base 3 "_law_graph_drawn" (top 38) ["pot", "nodes", "edges", "labels", "names"] (bodyM 10 b__law_graph_drawn) := ⟨_, fd, hF, fn_dl hF S (fun X cdv A outer s H E hX B O => ?_), G.d__law_graph_drawn, hF.bindsN fun _ _ _ _ _ _ us hl => match us, hl with | [_, _, _, _, _], _ => rfl⟩
  · exact F.sub G.mo
  exact (dss_cons (ds_set 5 B.nd (de_t c_int G.f_int boot_int (da_cons (de_add de_int (de_call B (ok__law_take G) (da_cons (de_var 0) (da_cons (de_var 1) da_nil)))) da_nil)))
 (dss_cons (ds_set 6 B.nd (de_t c_tup G.f_tuple boot_tuple (da_cons (DF.frz (df_lcB [("node", 9)] B (di_rng1 (da_cons (de_var 5) da_nil) G.f_range) rfl (tg_name 9) (by decide) (fun s H C cl fp B1 => (pg_name B1.nd rfl (by first | exact Or.inl rfl | exact Or.inr rfl))) (fun s H C cl fp B1 => dts_nil) (fun s H C cl fp B1 => (de_call B1 (ok__law_marks_drawn G) (da_cons (de_var 0) (da_cons (de_var 4) da_nil)))))) da_nil)))
 (dss_cons (ds_set 7 B.nd (DF.own (df_lst da_nil)))
 (dss_cons (ds_for O B.calm (di_rng1 (da_cons (de_call B (ok__law_take G) (da_cons (de_var 0) (da_cons (de_add (de_var 2) de_int) da_nil))) da_nil) G.f_range) (tg_name 8) (pg_name B.nd rfl (by first | exact Or.inl rfl | exact Or.inr rfl)) (dss_one (ds_expr (de_append (de_var 7) (de_tup (da_cons (de_t c_int G.f_int boot_int (da_cons (de_call B (ok__law_take G) (da_cons (de_var 0) (da_cons (de_var 5) da_nil))) da_nil)) (da_cons (de_call B (ok__law_of G) (da_cons (de_var 0) (da_cons (de_var 3) da_nil))) (da_cons (de_t c_int G.f_int boot_int (da_cons (de_call B (ok__law_take G) (da_cons (de_var 0) (da_cons (de_var 5) da_nil))) da_nil)) da_nil))))))))
 (dss_one (ds_ret (de_tup (da_cons (de_var 6) (da_cons (de_t c_tup G.f_tuple boot_tuple (da_cons (DF.frz (df_sox B.calm B.units G.f_sorted G.f_set (de_var 7))) da_nil)) da_nil)))))))))
def b__law_is_name : FM :=
 (seqM (ifS (orB (notB (tstM (isiM .str (varM 0)))) (notB (chB leG leG (cM (.int 1)) (callM lenG (consM (varM 0) nilM)) (cM (.int 12))))) (retM (cM (.bl false))) passM)
 (retM (callM allG (consM (frzM (lcM (seqI (varM 0)) [1] [1] nameT tYesM (valM (cmpB inG (varM 1) (cM (.str "abcdefghijklmnopqrstuvwxyz")))))) nilM))))
def x__law_is_name : DL.Fn := subM (bodyM 2 b__law_is_name)
theorem ok__law_is_name (G : Gf P w M mg base cc pa) : FOk P w M mg base 1 "_law_is_name" (top 39) ["value"] x__law_is_name := by
  obtain ⟨fd, hF⟩ := G.e__law_is_name
  have S : FnScope ["value", "sign"] ["value"] (C8.fnScope (top 39)) := ⟨rfl, rfl, rfl, by decide +kernel, rfl, by decide +kernel, by decide +kernel⟩
  have F : FOk P w M mg base 1 "_law_is_name" (top 39) ["value"] (bodyM 2 b__law_is_name) := ⟨_, fd, hF, fn_dl hF S (fun X cdv A outer s H E hX B O => ?_), G.d__law_is_name, hF.bindsN fun _ _ _ _ _ _ us hl => match us, hl with | [_], _ => rfl⟩
  · exact F.sub G.mo
  exact (dss_cons (ds_if (DW.t (dw_or (dt_not (de_tst (de_isi .str G.f_isinstance G.f_str boot_str (de_var 0)))) (dw_or1 (dt_not (dt_ch cm_leG cm_leG de_int (de_b c_len G.f_len boot_len (da_cons (de_var 0) da_nil)) de_int))))) (dss_one (ds_ret de_bl)) dss_nil)
 (dss_one (ds_ret (de_b (c_all B.calm) G.f_all boot_all (da_cons (DF.frz (df_lcB [("sign", 1)] B (di_seq (de_var 0)) rfl (tg_name 1) (by decide) (fun s H C cl fp B1 => (pg_name B1.nd rfl (by first | exact Or.inl rfl | exact Or.inr rfl))) (fun s H C cl fp B1 => dts_nil) (fun s H C cl fp B1 => (de_c cm_inG (de_var 1) de_str)))) da_nil)))))
def b__law_are_marks : FM :=
 (seqM (ifS (orB (notB (tstM (isiM .tuple (varM 0)))) (notB (tstM (callM allG (consM (frzM (lcM (seqI (varM 0)) [1] [1] nameT tYesM (callM x__law_is_name (consM (varM 1) nilM)))) nilM))))) (retM (cM (.bl false))) passM)
 (retM (callM allG (consM (frzM (lcM (callI zipI (consM (varM 0) (consM (sliM sliG (varM 0) (partM (cM (.int 1))) noneM) nilM))) [1, 2] [1, 2] (tupT (moreT nameT (moreT nameT noT))) tYesM (valM (cmpB ltG (varM 1) (varM 2))))) nilM))))
def x__law_are_marks : DL.Fn := subM (bodyM 3 b__law_are_marks)
theorem ok__law_are_marks (G : Gf P w M mg base cc pa) : FOk P w M mg base 2 "_law_are_marks" (top 40) ["value"] x__law_are_marks := by
  obtain ⟨fd, hF⟩ := G.e__law_are_marks
  have S : FnScope ["value", "one", "other"] ["value"] (C8.fnScope (top 40)) := ⟨rfl, rfl, rfl, by decide +kernel, rfl, by decide +kernel, by decide +kernel⟩
  have F : FOk P w M mg base 2 "_law_are_marks" (top 40) ["value"] (bodyM 3 b__law_are_marks) := ⟨_, fd, hF, fn_dl hF S (fun X cdv A outer s H E hX B O => ?_), G.d__law_are_marks, hF.bindsN fun _ _ _ _ _ _ us hl => match us, hl with | [_], _ => rfl⟩
  · exact F.sub G.mo
  exact (dss_cons (ds_if (DW.t (dw_or (dt_not (de_tst (de_isi .tuple G.f_isinstance G.f_tuple boot_tuple (de_var 0)))) (dw_or1 (dt_not (de_tst (de_b (c_all B.calm) G.f_all boot_all (da_cons (DF.frz (df_lcB [("one", 1)] B (di_seq (de_var 0)) rfl (tg_name 1) (by decide) (fun s H C cl fp B1 => (pg_name B1.nd rfl (by first | exact Or.inl rfl | exact Or.inr rfl))) (fun s H C cl fp B1 => dts_nil) (fun s H C cl fp B1 => (de_call B1 (ok__law_is_name G) (da_cons (de_var 1) da_nil))))) da_nil))))))) (dss_one (ds_ret de_bl)) dss_nil)
 (dss_one (ds_ret (de_b (c_all B.calm) G.f_all boot_all (da_cons (DF.frz (df_lcB [("one", 1), ("other", 2)] B (di_zip (da_cons (de_var 0) (da_cons (de_sli (de_var 0) (do_some de_int) do_none) da_nil)) G.f_zip) rfl (tg_tup (tgs_cons (tg_name 1) (tgs_cons (tg_name 2) tgs_nil))) (by decide) (fun s H C cl fp B2 => (pg_tup B2.calm (pgs_cons (pg_name B2.nd rfl (by first | exact Or.inl rfl | exact Or.inr rfl)) (pgs_cons (pg_name B2.nd rfl (by first | exact Or.inl rfl | exact Or.inr rfl)) pgs_nil)))) (fun s H C cl fp B2 => dts_nil) (fun s H C cl fp B2 => (de_c cm_ltG (de_var 1) (de_var 2))))) da_nil)))))
def b__law_lines : FM :=
 (seqM (setM 1 (frzM (lcM (seqI (op2M idxG (varM 0) (cM (.int 0)))) [2] [2] nameT tYesM (sm1 joinG (cM (.str " ")) (op2M addA (tupM (consM (cM (.str "node")) nilM)) (varM 2))))))
 (retM (op2M addA (varM 1) (frzM (lcM (seqI (op2M idxG (varM 0) (cM (.int 1)))) [3, 4, 5] [3, 4, 5] (tupT (moreT nameT (moreT nameT (moreT nameT noT)))) tYesM (op2M addA (op2M addA (op2M addA (op2M addA (op2M addA (cM (.str "edge ")) (callM strCG (consM (varM 3) nilM))) (cM (.str " "))) (varM 4)) (cM (.str " "))) (callM strCG (consM (varM 5) nilM))))))))
def x__law_lines : DL.Fn := subM (bodyM 6 b__law_lines)
theorem ok__law_lines (G : Gf P w M mg base cc pa) : FOk P w M mg base 1 "_law_lines" (top 41) ["graph"] x__law_lines := by
  obtain ⟨fd, hF⟩ := G.e__law_lines
  have S : FnScope ["graph", "found", "marks", "one", "label", "last"] ["graph"] (C8.fnScope (top 41)) := ⟨rfl, rfl, rfl, by decide +kernel, rfl, by decide +kernel, by decide +kernel⟩
  have F : FOk P w M mg base 1 "_law_lines" (top 41) ["graph"] (bodyM 6 b__law_lines) := ⟨_, fd, hF, fn_dl hF S (fun X cdv A outer s H E hX B O => ?_), G.d__law_lines, hF.bindsN fun _ _ _ _ _ _ us hl => match us, hl with | [_], _ => rfl⟩
  · exact F.sub G.mo
  exact (dss_cons (ds_lcB 1 [("marks", 2)] (fz := frzM) rd_frz B (di_seq (de_idx (de_var 0) de_int)) rfl (tg_name 2) (by decide) (fun s H C cl fp B1 => (pg_name B1.nd rfl (by first | exact Or.inl rfl | exact Or.inr rfl))) (fun s H C cl fp B1 => dts_nil) (fun s H C cl fp B1 => (de_join de_str (de_add (de_tup (da_cons de_str da_nil)) (de_var 2)))))
 (dss_one (ds_ret (de_add (de_var 1) (DF.frz (df_lcB [("one", 3), ("label", 4), ("last", 5)] B (di_seq (de_idx (de_var 0) de_int)) rfl (tg_tup (tgs_cons (tg_name 3) (tgs_cons (tg_name 4) (tgs_cons (tg_name 5) tgs_nil)))) (by decide) (fun s H C cl fp B2 => (pg_tup B2.calm (pgs_cons (pg_name B2.nd rfl (by first | exact Or.inl rfl | exact Or.inr rfl)) (pgs_cons (pg_name B2.nd rfl (by first | exact Or.inl rfl | exact Or.inr rfl)) (pgs_cons (pg_name B2.nd rfl (by first | exact Or.inl rfl | exact Or.inr rfl)) pgs_nil))))) (fun s H C cl fp B2 => dts_nil) (fun s H C cl fp B2 => (de_add (de_add (de_add (de_add (de_add de_str (de_t c_str G.f_str boot_str (da_cons (de_var 3) da_nil))) de_str) (de_var 4)) de_str) (de_t c_str G.f_str boot_str (da_cons (de_var 5) da_nil))))))))))
def b__law_number : FM :=
 (seqM (ifS (orB (notB (chB leG leG (cM (.int 1)) (callM lenG (consM (varM 0) nilM)) (cM (.int 3)))) (notB (tstM (callM allG (consM (frzM (lcM (seqI (varM 0)) [1] [1] nameT tYesM (valM (cmpB inG (varM 1) (cM (.str "0123456789")))))) nilM))))) (retM (cM .non)) passM)
 (retM (ifM (orB (cmpB eqG (callM lenG (consM (varM 0) nilM)) (cM (.int 1))) (cmpB neG (op2M idxG (varM 0) (cM (.int 0))) (cM (.str "0")))) (callM intTG (consM (varM 0) nilM)) (cM .non))))
def x__law_number : DL.Fn := subM (bodyM 2 b__law_number)
theorem ok__law_number (G : Gf P w M mg base cc pa) : FOk P w M mg base 1 "_law_number" (top 42) ["word"] x__law_number := by
  obtain ⟨fd, hF⟩ := G.e__law_number
  have S : FnScope ["word", "sign"] ["word"] (C8.fnScope (top 42)) := ⟨rfl, rfl, rfl, by decide +kernel, rfl, by decide +kernel, by decide +kernel⟩
  have F : FOk P w M mg base 1 "_law_number" (top 42) ["word"] (bodyM 2 b__law_number) := ⟨_, fd, hF, fn_dl hF S (fun X cdv A outer s H E hX B O => ?_), G.d__law_number, hF.bindsN fun _ _ _ _ _ _ us hl => match us, hl with | [_], _ => rfl⟩
  · exact F.sub G.mo
  exact (dss_cons (ds_if (DW.t (dw_or (dt_not (dt_ch cm_leG cm_leG de_int (de_b c_len G.f_len boot_len (da_cons (de_var 0) da_nil)) de_int)) (dw_or1 (dt_not (de_tst (de_b (c_all B.calm) G.f_all boot_all (da_cons (DF.frz (df_lcB [("sign", 1)] B (di_seq (de_var 0)) rfl (tg_name 1) (by decide) (fun s H C cl fp B1 => (pg_name B1.nd rfl (by first | exact Or.inl rfl | exact Or.inr rfl))) (fun s H C cl fp B1 => dts_nil) (fun s H C cl fp B1 => (de_c cm_inG (de_var 1) de_str)))) da_nil))))))) (dss_one (ds_ret de_non)) dss_nil)
 (dss_one (ds_ret (de_ifExp (DW.t (dw_or (dt_c (cm_eqG B.units) (de_b c_len G.f_len boot_len (da_cons (de_var 0) da_nil)) de_int) (dw_or1 (dt_c (cm_neG B.units) (de_idx (de_var 0) de_int) de_str)))) (de_t c_intT G.f_int boot_int (da_cons (de_var 0) da_nil)) de_non))))
def b__law_read : FM :=
 (seqM (parM 1 2 (consM (ownM (lstM nilM)) (consM (ownM (lstM nilM)) nilM)))
 (seqM (forM (callI enuI (consM (frzM (sm1F splitG (varM 0) (cM (.str "\n")))) nilM)) [3, 4] (tupT (moreT nameT (moreT nameT noT))) (seqM (parM 5 6 (consM (frzM (sm1F splitG (varM 4) (cM (.str " ")))) (consM (ifM (cmpB neG (varM 1) (frzM (lstM nilM))) (cM (.str "edge")) (cM (.str "node"))) nilM)))
 (seqM (ifS (andB (cmpB eqG (op2M idxG (varM 5) (cM (.int 0))) (cM (.str "node"))) (cmpB eqG (varM 2) (frzM (lstM nilM)))) (seqM (ifS (orB (notB (tstM (callM x__law_are_marks (consM (callM tupCG (consM (sliM sliG (varM 5) (partM (cM (.int 1))) noneM) nilM)) nilM)))) (cmpB eqG (callM lenG (consM (varM 1) nilM)) (cM (.int 60)))) (retM (tupM (consM (op2M addA (varM 3) (cM (.int 1))) (consM (varM 6) (consM (cM .non) nilM))))) passM)
 (seqM (expM (appM (varM 1) (callM tupCG (consM (sliM sliG (varM 5) (partM (cM (.int 1))) noneM) nilM))))
 cntM)) passM)
 (seqM (ifS (orB (cmpB neG (op2M idxG (varM 5) (cM (.int 0))) (cM (.str "edge"))) (orB (cmpB neG (callM lenG (consM (varM 5) nilM)) (cM (.int 4))) (notB (tstM (callM x__law_is_name (consM (op2M idxG (varM 5) (cM (.int 2))) nilM)))))) (retM (tupM (consM (op2M addA (varM 3) (cM (.int 1))) (consM (varM 6) (consM (cM .non) nilM))))) passM)
 (seqM (parM 7 8 (consM (callM x__law_number (consM (op2M idxG (varM 5) (cM (.int 1))) nilM)) (consM (callM x__law_number (consM (op2M idxG (varM 5) (cM (.int 3))) nilM)) nilM)))
 (seqM (ifS (orB (cmpB isG (varM 7) (cM .non)) (orB (cmpB isG (varM 8) (cM .non)) (cmpB geG (callM max2G (consM (varM 7) (consM (varM 8) nilM))) (callM lenG (consM (varM 1) nilM))))) (retM (tupM (consM (op2M addA (varM 3) (cM (.int 1))) (consM (varM 6) (consM (cM .non) nilM))))) passM)
 (seqM (ifS (andB (cmpB neG (varM 2) (frzM (lstM nilM))) (cmpB leX (tupM (consM (varM 7) (consM (op2M idxG (varM 5) (cM (.int 2))) (consM (varM 8) nilM)))) (op2M idxG (varM 2) (negM (cM (.int 1)))))) (retM (tupM (consM (op2M addA (varM 3) (cM (.int 1))) (consM (varM 6) (consM (cM .non) nilM))))) passM)
 (expM (appM (varM 2) (tupM (consM (varM 7) (consM (op2M idxG (varM 5) (cM (.int 2))) (consM (varM 8) nilM)))))))))))))
 (retM (tupM (consM (cM .non) (consM (cM .non) (consM (tupM (consM (callM tupCG (consM (varM 1) nilM)) (consM (callM tupCG (consM (varM 2) nilM)) nilM))) nilM)))))))
def x__law_read : DL.Fn := subM (bodyM 9 b__law_read)
theorem ok__law_read (G : Gf P w M mg base cc pa) : FOk P w M mg base 3 "_law_read" (top 43) ["text"] x__law_read := by
  obtain ⟨fd, hF⟩ := G.e__law_read
  have S : FnScope ["text", "marks", "edges", "at", "line", "words", "miss", "one", "last"] ["text"] (C8.fnScope (top 43)) := ⟨rfl, rfl, rfl, by decide +kernel, rfl, by decide +kernel, by decide +kernel⟩
  have F : FOk P w M mg base 3 "_law_read" (top 43) ["text"] (bodyM 9 b__law_read) := ⟨_, fd, hF, fn_dl hF S (fun X cdv A outer s H E hX B O => ?_), G.d__law_read, hF.bindsN fun _ _ _ _ _ _ us hl => match us, hl with | [_], _ => rfl⟩
  · exact F.sub G.mo
  exact (dss_cons (ds_par 1 2 B.calm B.nd (da_cons (DF.own (df_lst da_nil)) (da_cons (DF.own (df_lst da_nil)) da_nil)))
 (dss_cons (ds_for O B.calm (di_enu (da_cons (DF.frz (df_split (de_var 0) de_str)) da_nil) G.f_enumerate) (tg_tup (tgs_cons (tg_name 3) (tgs_cons (tg_name 4) tgs_nil))) (pg_tup B.calm (pgs_cons (pg_name B.nd rfl (by first | exact Or.inl rfl | exact Or.inr rfl)) (pgs_cons (pg_name B.nd rfl (by first | exact Or.inl rfl | exact Or.inr rfl)) pgs_nil))) (dss_cons (ds_par 5 6 B.calm B.nd (da_cons (DF.frz (df_split (de_var 4) de_str)) (da_cons (de_ifExp (dt_c (cm_neG B.units) (de_var 1) (DF.frz (df_lst da_nil))) de_str de_str) da_nil)))
 (dss_cons (ds_if (DW.t (dw_and (dt_c (cm_eqG B.units) (de_idx (de_var 5) de_int) de_str) (dw_and1 (dt_c (cm_eqG B.units) (de_var 2) (DF.frz (df_lst da_nil)))))) (dss_cons (ds_if (DW.t (dw_or (dt_not (de_tst (de_call B (ok__law_are_marks G) (da_cons (de_t c_tup G.f_tuple boot_tuple (da_cons (de_sli (de_var 5) (do_some de_int) do_none) da_nil)) da_nil)))) (dw_or1 (dt_c (cm_eqG B.units) (de_b c_len G.f_len boot_len (da_cons (de_var 1) da_nil)) de_int)))) (dss_one (ds_ret (de_tup (da_cons (de_add (de_var 3) de_int) (da_cons (de_var 6) (da_cons de_non da_nil)))))) dss_nil)
 (dss_cons (ds_expr (de_append (de_var 1) (de_t c_tup G.f_tuple boot_tuple (da_cons (de_sli (de_var 5) (do_some de_int) do_none) da_nil))))
 (dss_one ds_cnt))) dss_nil)
 (dss_cons (ds_if (DW.t (dw_or (dt_c (cm_neG B.units) (de_idx (de_var 5) de_int) de_str) (dw_or (dt_c (cm_neG B.units) (de_b c_len G.f_len boot_len (da_cons (de_var 5) da_nil)) de_int) (dw_or1 (dt_not (de_tst (de_call B (ok__law_is_name G) (da_cons (de_idx (de_var 5) de_int) da_nil)))))))) (dss_one (ds_ret (de_tup (da_cons (de_add (de_var 3) de_int) (da_cons (de_var 6) (da_cons de_non da_nil)))))) dss_nil)
 (dss_cons (ds_par 7 8 B.calm B.nd (da_cons (de_call B (ok__law_number G) (da_cons (de_idx (de_var 5) de_int) da_nil)) (da_cons (de_call B (ok__law_number G) (da_cons (de_idx (de_var 5) de_int) da_nil)) da_nil)))
 (dss_cons (ds_if (DW.t (dw_or (dt_c cm_isG (de_var 7) de_non) (dw_or (dt_c cm_isG (de_var 8) de_non) (dw_or1 (dt_c cm_geG (de_b (c_max2 B.calm) G.f_max boot_max (da_cons (de_var 7) (da_cons (de_var 8) da_nil))) (de_b c_len G.f_len boot_len (da_cons (de_var 1) da_nil))))))) (dss_one (ds_ret (de_tup (da_cons (de_add (de_var 3) de_int) (da_cons (de_var 6) (da_cons de_non da_nil)))))) dss_nil)
 (dss_cons (ds_if (DW.t (dw_and (dt_c (cm_neG B.units) (de_var 2) (DF.frz (df_lst da_nil))) (dw_and1 (dt_c (cm_leX B.units) (de_tup (da_cons (de_var 7) (da_cons (de_idx (de_var 5) de_int) (da_cons (de_var 8) da_nil)))) (de_idx (de_var 2) (de_neg de_int)))))) (dss_one (ds_ret (de_tup (da_cons (de_add (de_var 3) de_int) (da_cons (de_var 6) (da_cons de_non da_nil)))))) dss_nil)
 (dss_one (ds_expr (de_append (de_var 2) (de_tup (da_cons (de_var 7) (da_cons (de_idx (de_var 5) de_int) (da_cons (de_var 8) da_nil))))))))))))))
 (dss_one (ds_ret (de_tup (da_cons de_non (da_cons de_non (da_cons (de_tup (da_cons (de_t c_tup G.f_tuple boot_tuple (da_cons (de_var 1) da_nil)) (da_cons (de_t c_tup G.f_tuple boot_tuple (da_cons (de_var 2) da_nil)) da_nil))) da_nil))))))))
def b__law_is_text_right : FM :=
 (seqM (asgM [1, 2, 3] (tupT (moreT nameT (moreT nameT (moreT nameT noT)))) (callM (subM x__law_read) (consM (varM 0) nilM)))
 (seqM (asgM [4, 5] (tupT (moreT nameT (moreT nameT noT))) (callO x__law_heard cap__law_is_text_right (consM (cloM 0) nilM)))
 (seqM (ifS (notB (tstM (callM (subM x__law_is_bool) (consM (callM (subM x_can_be_read_as_graph) (consM (varM 0) nilM)) (consM (valM (cmpB isG (varM 1) (cM .non))) nilM))))) (retM (cM (.bl false))) passM)
 (seqM (ifS (cmpB isG (varM 1) (cM .non)) (retM (andM (valM (cmpB isG (varM 4) (cM .non))) (valM (cmpB eqG (callM reprG (consM (varM 5) nilM)) (callM reprG (consM (varM 3) nilM)))))) passM)
 (retM (andM (isxM [false, false, false, true] (varM 4)) (valM (cmpB eqG (callM reprG (consM (fldM 4 (varM 4)) nilM)) (callM reprG (consM (tupM (consM (varM 1) (consM (varM 2) nilM))) nilM))))))))))
def x__law_is_text_right : DL.Fn := subM (bodyM 6 b__law_is_text_right)
theorem own_ok__law_is_text_right {P : Program} {w : World} {M : Mp} {mg : Str → Option Value} {base : Heap} {cc : Nat → Addr} {A : Around} {outer : List Env} {s : Shared} {H : Hp} {E : XK} : OwnOk (cxOf (L2.CX P w) P w M.K mg base ["text", "line", "miss", "graph", "caught", "told"] "_law_is_text_right" (C8.fnScope (top 44)) (M.fa 28) (.ref (cc 0)) A outer s H E) cds own__law_is_text_right cap__law_is_text_right := by
  refine ⟨fun k cd h => ?_, fun k cd js h h2 => ?_, fun k cd h => ?_, fun _ => rfl⟩
  · unfold own__law_is_text_right at h; split at h <;> first | (cases h; exact ⟨rfl, by decide⟩) | cases h
  · unfold own__law_is_text_right at h; split at h <;> first | (cases h; cases h2; rfl) | cases h
  · unfold own__law_is_text_right at h; split at h <;> first | (cases h; show ndefB (C8.fnScope (top 44)) _ _ = true; decide +kernel) | cases h
theorem ok__law_is_text_right (G : Gf P w M mg base cc pa) : FOkG P w M mg base 8 "_law_is_text_right" (top 44) ["text"] x__law_is_text_right := by
  obtain ⟨fd, hC⟩ := G.e__law_is_text_right
  have hF := hC.std
  have S : FnScope ["text", "line", "miss", "graph", "caught", "told"] ["text"] (C8.fnScope (top 44)) := ⟨rfl, rfl, rfl, by decide +kernel, rfl, by decide +kernel, by decide +kernel⟩
  refine ⟨_, fd, hF, fn_dlGC (own := own__law_is_text_right) hC S G.mo (fun X A outer s H E hX B O hG0 => ?_), G.d__law_is_text_right, hF.bindsN fun _ _ _ _ _ _ us hl => match us, hl with | [_], _ => rfl⟩
  have mk : Mk (cxOf (L2.CX P w) P w M.K mg base ["text", "line", "miss", "graph", "caught", "told"] "_law_is_text_right" (C8.fnScope (top 44)) (M.fa 28) (.ref (cc 0)) A outer s H E) M (tabL pa) (cc 0) (pa 0) nm__law_is_text_right := ⟨G.tabs, G.tb__law_is_text_right, rfl, by simp [tabL], fun p hp e => G.tdis p hp (pa 0, nm__law_is_text_right) (by simp [tabL]) e⟩
  have hG : (cxOf (L2.CX P w) P w M.K mg base ["text", "line", "miss", "graph", "caught", "told"] "_law_is_text_right" (C8.fnScope (top 44)) (M.fa 28) (.ref (cc 0)) A outer s H E).A.guards = some [] := hG0
  have own : OwnOk (cxOf (L2.CX P w) P w M.K mg base ["text", "line", "miss", "graph", "caught", "told"] "_law_is_text_right" (C8.fnScope (top 44)) (M.fa 28) (.ref (cc 0)) A outer s H E) cds own__law_is_text_right cap__law_is_text_right := own_ok__law_is_text_right
  exact (dss_cons (ds_asg (de_call B ((ok__law_read G).wide (openM_agr M _ own__law_is_text_right) G.mo) (da_cons (de_var 0) da_nil)) (tg_tup (tgs_cons (tg_name 1) (tgs_cons (tg_name 2) (tgs_cons (tg_name 3) tgs_nil)))) (pg_tup B.calm (pgs_cons (pg_name B.nd rfl (by first | exact Or.inl rfl | exact Or.inr rfl)) (pgs_cons (pg_name B.nd rfl (by first | exact Or.inl rfl | exact Or.inr rfl)) (pgs_cons (pg_name B.nd rfl (by first | exact Or.inl rfl | exact Or.inr rfl)) pgs_nil)))))
 (dss_cons (ds_asg (de_callO own (fun k H f xs h hk => (G.clos k H f xs).mpr ⟨hk, h⟩) G.mo B (ok__law_heard G) (da_cons (de_lam 0 mk (cd := cd_0) rfl (own.sc 0 _ rfl) rfl) da_nil)) (tg_tup (tgs_cons (tg_name 4) (tgs_cons (tg_name 5) tgs_nil))) (pg_tup B.calm (pgs_cons (pg_name B.nd rfl (by first | exact Or.inl rfl | exact Or.inr rfl)) (pgs_cons (pg_name B.nd rfl (by first | exact Or.inl rfl | exact Or.inr rfl)) pgs_nil))))
 (dss_cons (ds_if (dt_not (de_tst (de_call B ((ok__law_is_bool G).wide (openM_agr M _ own__law_is_text_right) G.mo) (da_cons (de_callK0 B ((ok_can_be_read_as_graph G).wide (openM_agr M _ own__law_is_text_right) G.mo) (dk_cons (de_var 0) dk_nil) (ks := ["text"]) (fun _ _ _ _ _ _ us ws h1 h2 => match us, ws, h1, h2 with | [], [_], _, _ => rfl) (lenM_cons lenM_nil)) (da_cons (de_c cm_isG (de_var 1) de_non) da_nil))))) (dss_one (ds_ret de_bl)) dss_nil)
 (dss_cons (ds_if (dt_c cm_isG (de_var 1) de_non) (dss_one (ds_ret (de_and (de_c cm_isG (de_var 4) de_non) (de_one (de_c (cm_eqG B.units) (de_b (c_repr hG B.units) G.f_repr boot_repr (da_cons (de_var 5) da_nil)) (de_b (c_repr hG B.units) G.f_repr boot_repr (da_cons (de_var 3) da_nil))))))) dss_nil)
 (dss_one (ds_ret (de_and (de_isx [false, false, false, true] G.ask G.i_NotRead G.f_isinstance G.c_NotRead (de_var 4)) (de_one (de_c (cm_eqG B.units) (de_b (c_repr hG B.units) G.f_repr boot_repr (da_cons (de_fld 4 G.ask (de_var 4)) da_nil)) (de_b (c_repr hG B.units) G.f_repr boot_repr (da_cons (de_tup (da_cons (de_var 1) (da_cons (de_var 2) da_nil))) da_nil)))))))))))
def b__law_right : FM :=
 (seqM (forM (callI rngI1 (consM (cM (.int 8)) nilM)) [1] nameT (seqM (setM 2 (callM (subM x__law_graph_drawn) (consM (varM 0) (consM (cM (.int 6)) (consM (cM (.int 8)) (consM (frzM (lstM (consM (cM (.str "x")) (consM (cM (.str "knows")) nilM)))) (consM (frzM (lstM (consM (cM (.str "a")) (consM (cM (.str "bc")) nilM)))) nilM)))))))
 (seqM (setM 3 (callM (subM x_print_graph) (consM (varM 2) nilM)))
 (seqM (ifS (orB (cmpB neG (callM reprG (consM (varM 3) nilM)) (callM reprG (consM (sm1 joinG (cM (.str "\n")) (callM (subM x__law_lines) (consM (varM 2) nilM))) nilM))) (cmpB neG (callM reprG (consM (callM (subM x_read_graph) (consM (varM 3) nilM)) nilM)) (callM reprG (consM (varM 2) nilM)))) (retM (cM (.bl false))) passM)
 (seqM (setM 4 (frzM (sm1F splitG (varM 3) (cM (.str "\n")))))
 (forM (callI rngI1 (consM (cM (.int 8)) nilM)) [5] nameT (seqM (parM 6 7 (consM (callM (subM x__law_take) (consM (varM 0) (consM (callM lenG (consM (varM 4) nilM)) nilM))) (consM (callM (subM x__law_of) (consM (varM 0) (consM (varM 4) nilM))) nilM)))
 (seqM (setM 8 (callM (subM x__law_take) (consM (varM 0) (consM (op2M addA (callM lenG (consM (varM 7) nilM)) (cM (.int 1))) nilM))))
 (seqM (setM 9 (callM (subM x__law_of) (consM (varM 0) (consM (frzM (lstM (consM (cM (.str "")) (consM (cM (.str " ")) (consM (cM (.str "0")) (consM (cM (.str "7")) (consM (cM (.str "x")) (consM (cM (.str "Z")) (consM (cM (.str "-")) (consM (cM (.str "\n")) nilM)))))))))) nilM))))
 (seqM (setM 10 (op2M addA (op2M addA (sliM sliG (varM 7) noneM (partM (varM 8))) (varM 9)) (sliM sliG (varM 7) (partM (op2M addA (varM 8) (callM (subM x__law_take) (consM (varM 0) (consM (cM (.int 2)) nilM))))) noneM)))
 (seqM (setM 11 (frzM (lstM (consM (op2M addA (op2M addA (sliM sliG (varM 4) noneM (partM (varM 6))) (frzM (lstM (consM (varM 10) nilM)))) (sliM sliG (varM 4) (partM (varM 6)) noneM)) (consM (op2M addA (sliM sliG (varM 4) noneM (partM (varM 6))) (sliM sliG (varM 4) (partM (op2M addA (varM 6) (cM (.int 1)))) noneM)) (consM (sliM sliG (varM 4) (partM (varM 6)) noneM) (consM (op2M addA (varM 4) (sliM sliG (varM 4) (partM (varM 6)) noneM)) nilM)))))))
 (seqM (setM 11 (op2M addA (varM 11) (frzM (lstM (consM (revM (varM 4)) nilM)))))
 (ifS (notB (tstM (callM (subM x__law_is_text_right) (consM (sm1 joinG (cM (.str "\n")) (callM (subM x__law_of) (consM (varM 0) (consM (varM 11) nilM)))) nilM)))) (retM (cM (.bl false))) passM)))))))))))))
 (seqM (setM 12 (frzM (lstM (consM (cM (.str "")) (consM (cM (.str "node")) (consM (cM (.str "node ")) (consM (cM (.str "node b a")) (consM (cM (.str "edge 0 x 0")) (consM (cM (.str "node\nedge 0 x 1")) (consM (cM (.str "node\nedge 0 x 0\nedge 0 x 0")) nilM))))))))))
 (seqM (setM 12 (op2M addA (varM 12) (frzM (lstM (consM (cM (.str "node\nnode\nedge 1 x 0")) nilM)))))
 (seqM (setM 12 (op2M addA (varM 12) (frzM (lstM (consM (cM (.str "node\nedge 0 x 0\nnode")) (consM (cM (.str "node\nedge 00 x 0")) (consM (op2M addA (op2M mulXG (cM (.str "node\n")) (cM (.int 59))) (cM (.str "node"))) (consM (op2M addA (op2M mulXG (cM (.str "node\n")) (cM (.int 60))) (cM (.str "node"))) nilM))))))))
 (seqM (setM 12 (op2M addA (varM 12) (frzM (lstM (consM (cM (.str "nodes")) nilM)))))
 (seqM (ifS (notB (tstM (callM allG (consM (frzM (lcM (seqI (varM 12)) [3] [3] nameT tYesM (callM (subM x__law_is_text_right) (consM (varM 3) nilM)))) nilM)))) (retM (cM (.bl false))) passM)
 (seqM (setM 13 (callM (subM x__law_of) (consM (varM 0) (consM (frzM (lstM (consM (cM .non) (consM (cM (.int 1)) (consM (frzM (lstM (consM (cM (.str "node")) nilM))) (consM (tupM (consM (cM (.str "node")) nilM)) (consM (cM (.bl true)) nilM))))))) nilM))))
 (seqM (setM 14 (op2M idxG (callO x__law_heard cap__law_right (consM (cloM 1) nilM)) (cM (.int 0))))
 (seqM (ifS (orB (notB (tstM (isxM [false, false, true, false] (varM 14)))) (orB (cmpB neG (callM reprG (consM (fldM 4 (varM 14)) nilM)) (callM reprG (consM (varM 13) nilM))) (cmpB nisG (callM (subM x_can_be_read_as_graph) (consM (varM 13) nilM)) (cM (.bl false))))) (retM (cM (.bl false))) passM)
 (seqM (setM 13 (callM (subM x__law_of) (consM (varM 0) (consM (frzM (lstM (consM (cM .non) (consM (tupM nilM) (consM (tupM (consM (tupM nilM) (consM (tupM nilM) nilM))) (consM (tupM (consM (tupM (consM (tupM nilM) nilM)) (consM (tupM (consM (tupM (consM (cM (.int 0)) (consM (cM (.str "x")) (consM (cM (.int 1)) nilM)))) nilM)) nilM))) nilM)))))) nilM))))
 (seqM (setM 14 (op2M idxG (callO x__law_heard cap__law_right (consM (cloM 2) nilM)) (cM (.int 0))))
 (retM (andM (isxM [false, true, false, false] (varM 14)) (valM (cmpB eqG (callM reprG (consM (fldM 4 (varM 14)) nilM)) (callM reprG (consM (varM 13) nilM)))))))))))))))))
def x__law_right : DL.Fn := subM (bodyM 15 b__law_right)
theorem own_ok__law_right {P : Program} {w : World} {M : Mp} {mg : Str → Option Value} {base : Heap} {cc : Nat → Addr} {A : Around} {outer : List Env} {s : Shared} {H : Hp} {E : XK} : OwnOk (cxOf (L2.CX P w) P w M.K mg base ["pot", "lap", "graph", "text", "lines", "turn", "at", "line", "spot", "sign", "bent", "some", "texts", "odd", "miss"] "_law_right" (C8.fnScope (top 45)) (M.fa 29) (.ref (cc 1)) A outer s H E) cds own__law_right cap__law_right := by
  refine ⟨fun k cd h => ?_, fun k cd js h h2 => ?_, fun k cd h => ?_, fun _ => rfl⟩
  · unfold own__law_right at h; split at h <;> first | (cases h; exact ⟨rfl, by decide⟩) | cases h
  · unfold own__law_right at h; split at h <;> first | (cases h; cases h2; rfl) | cases h
  · unfold own__law_right at h; split at h <;> first | (cases h; show ndefB (C8.fnScope (top 45)) _ _ = true; decide +kernel) | cases h
theorem ok__law_right (G : Gf P w M mg base cc pa) : FOkG P w M mg base 9 "_law_right" (top 45) ["pot"] x__law_right := by
  obtain ⟨fd, hC⟩ := G.e__law_right
  have hF := hC.std
  have S : FnScope ["pot", "lap", "graph", "text", "lines", "turn", "at", "line", "spot", "sign", "bent", "some", "texts", "odd", "miss"] ["pot"] (C8.fnScope (top 45)) := ⟨rfl, rfl, rfl, by decide +kernel, rfl, by decide +kernel, by decide +kernel⟩
  refine ⟨_, fd, hF, fn_dlGC (own := own__law_right) hC S G.mo (fun X A outer s H E hX B O hG0 => ?_), G.d__law_right, hF.bindsN fun _ _ _ _ _ _ us hl => match us, hl with | [_], _ => rfl⟩
  have mk : Mk (cxOf (L2.CX P w) P w M.K mg base ["pot", "lap", "graph", "text", "lines", "turn", "at", "line", "spot", "sign", "bent", "some", "texts", "odd", "miss"] "_law_right" (C8.fnScope (top 45)) (M.fa 29) (.ref (cc 1)) A outer s H E) M (tabL pa) (cc 1) (pa 1) nm__law_right := ⟨G.tabs, G.tb__law_right, rfl, by simp [tabL], fun p hp e => G.tdis p hp (pa 1, nm__law_right) (by simp [tabL]) e⟩
  have hG : (cxOf (L2.CX P w) P w M.K mg base ["pot", "lap", "graph", "text", "lines", "turn", "at", "line", "spot", "sign", "bent", "some", "texts", "odd", "miss"] "_law_right" (C8.fnScope (top 45)) (M.fa 29) (.ref (cc 1)) A outer s H E).A.guards = some [] := hG0
  have own : OwnOk (cxOf (L2.CX P w) P w M.K mg base ["pot", "lap", "graph", "text", "lines", "turn", "at", "line", "spot", "sign", "bent", "some", "texts", "odd", "miss"] "_law_right" (C8.fnScope (top 45)) (M.fa 29) (.ref (cc 1)) A outer s H E) cds own__law_right cap__law_right := own_ok__law_right
  exact (dss_cons (ds_for O B.calm (di_rng1 (da_cons de_int da_nil) G.f_range) (tg_name 1) (pg_name B.nd rfl (by first | exact Or.inl rfl | exact Or.inr rfl)) (dss_cons (ds_set 2 B.nd (de_call B ((ok__law_graph_drawn G).wide (openM_agr M _ own__law_right) G.mo) (da_cons (de_var 0) (da_cons de_int (da_cons de_int (da_cons (DF.frz (df_lst (da_cons de_str (da_cons de_str da_nil)))) (da_cons (DF.frz (df_lst (da_cons de_str (da_cons de_str da_nil)))) da_nil)))))))
 (dss_cons (ds_set 3 B.nd (de_callK0 B ((ok_print_graph G).wide (openM_agr M _ own__law_right) G.mo) (dk_cons (de_var 2) dk_nil) (ks := ["graph"]) (fun _ _ _ _ _ _ us ws h1 h2 => match us, ws, h1, h2 with | [], [_], _, _ => rfl) (lenM_cons lenM_nil)))
 (dss_cons (ds_if (DW.t (dw_or (dt_c (cm_neG B.units) (de_b (c_repr hG B.units) G.f_repr boot_repr (da_cons (de_var 3) da_nil)) (de_b (c_repr hG B.units) G.f_repr boot_repr (da_cons (de_join de_str (de_call B ((ok__law_lines G).wide (openM_agr M _ own__law_right) G.mo) (da_cons (de_var 2) da_nil))) da_nil))) (dw_or1 (dt_c (cm_neG B.units) (de_b (c_repr hG B.units) G.f_repr boot_repr (da_cons (de_call B ((ok_read_graph G).wide (openM_agr M _ own__law_right) G.mo) (da_cons (de_var 3) da_nil)) da_nil)) (de_b (c_repr hG B.units) G.f_repr boot_repr (da_cons (de_var 2) da_nil)))))) (dss_one (ds_ret de_bl)) dss_nil)
 (dss_cons (ds_set 4 B.nd (DF.frz (df_split (de_var 3) de_str)))
 (dss_one (ds_for O B.calm (di_rng1 (da_cons de_int da_nil) G.f_range) (tg_name 5) (pg_name B.nd rfl (by first | exact Or.inl rfl | exact Or.inr rfl)) (dss_cons (ds_par 6 7 B.calm B.nd (da_cons (de_call B ((ok__law_take G).wide (openM_agr M _ own__law_right) G.mo) (da_cons (de_var 0) (da_cons (de_b c_len G.f_len boot_len (da_cons (de_var 4) da_nil)) da_nil))) (da_cons (de_call B ((ok__law_of G).wide (openM_agr M _ own__law_right) G.mo) (da_cons (de_var 0) (da_cons (de_var 4) da_nil))) da_nil)))
 (dss_cons (ds_set 8 B.nd (de_call B ((ok__law_take G).wide (openM_agr M _ own__law_right) G.mo) (da_cons (de_var 0) (da_cons (de_add (de_b c_len G.f_len boot_len (da_cons (de_var 7) da_nil)) de_int) da_nil))))
 (dss_cons (ds_set 9 B.nd (de_call B ((ok__law_of G).wide (openM_agr M _ own__law_right) G.mo) (da_cons (de_var 0) (da_cons (DF.frz (df_lst (da_cons de_str (da_cons de_str (da_cons de_str (da_cons de_str (da_cons de_str (da_cons de_str (da_cons de_str (da_cons de_str da_nil)))))))))) da_nil))))
 (dss_cons (ds_set 10 B.nd (de_add (de_add (de_sli (de_var 7) do_none (do_some (de_var 8))) (de_var 9)) (de_sli (de_var 7) (do_some (de_add (de_var 8) (de_call B ((ok__law_take G).wide (openM_agr M _ own__law_right) G.mo) (da_cons (de_var 0) (da_cons de_int da_nil))))) do_none)))
 (dss_cons (ds_set 11 B.nd (DF.frz (df_lst (da_cons (de_add (de_add (de_sli (de_var 4) do_none (do_some (de_var 6))) (DF.frz (df_lst (da_cons (de_var 10) da_nil)))) (de_sli (de_var 4) (do_some (de_var 6)) do_none)) (da_cons (de_add (de_sli (de_var 4) do_none (do_some (de_var 6))) (de_sli (de_var 4) (do_some (de_add (de_var 6) de_int)) do_none)) (da_cons (de_sli (de_var 4) (do_some (de_var 6)) do_none) (da_cons (de_add (de_var 4) (de_sli (de_var 4) (do_some (de_var 6)) do_none)) da_nil)))))))
 (dss_cons (ds_set 11 B.nd (de_add (de_var 11) (DF.frz (df_lst (da_cons (de_rev (de_var 4)) da_nil)))))
 (dss_one (ds_if (dt_not (de_tst (de_callG hG B ((ok__law_is_text_right G).wide (openM_agr M _ own__law_right) G.mo) (da_cons (de_join de_str (de_call B ((ok__law_of G).wide (openM_agr M _ own__law_right) G.mo) (da_cons (de_var 0) (da_cons (de_var 11) da_nil)))) da_nil)))) (dss_one (ds_ret de_bl)) dss_nil)))))))))))))))
 (dss_cons (ds_set 12 B.nd (DF.frz (df_lst (da_cons de_str (da_cons de_str (da_cons de_str (da_cons de_str (da_cons de_str (da_cons de_str (da_cons de_str da_nil))))))))))
 (dss_cons (ds_set 12 B.nd (de_add (de_var 12) (DF.frz (df_lst (da_cons de_str da_nil)))))
 (dss_cons (ds_set 12 B.nd (de_add (de_var 12) (DF.frz (df_lst (da_cons de_str (da_cons de_str (da_cons (de_add (de_o op_mulXG de_str de_int) de_str) (da_cons (de_add (de_o op_mulXG de_str de_int) de_str) da_nil))))))))
 (dss_cons (ds_set 12 B.nd (de_add (de_var 12) (DF.frz (df_lst (da_cons de_str da_nil)))))
 (dss_cons (ds_if (dt_not (de_tst (de_b (c_all B.calm) G.f_all boot_all (da_cons (DF.frz (df_lcB [("text", 3)] B (di_seq (de_var 12)) rfl (tg_name 3) (by decide) (fun s H C cl fp B1 => (pg_name B1.nd rfl (by first | exact Or.inl rfl | exact Or.inr rfl))) (fun s H C cl fp B1 => dts_nil) (fun s H C cl fp B1 => (de_callG hG B1 ((ok__law_is_text_right G).wide (openM_agr M _ own__law_right) G.mo) (da_cons (de_var 3) da_nil))))) da_nil)))) (dss_one (ds_ret de_bl)) dss_nil)
 (dss_cons (ds_set 13 B.nd (de_call B ((ok__law_of G).wide (openM_agr M _ own__law_right) G.mo) (da_cons (de_var 0) (da_cons (DF.frz (df_lst (da_cons de_non (da_cons de_int (da_cons (DF.frz (df_lst (da_cons de_str da_nil))) (da_cons (de_tup (da_cons de_str da_nil)) (da_cons de_bl da_nil))))))) da_nil))))
 (dss_cons (ds_set 14 B.nd (de_idx (de_callO own (fun k H f xs h hk => (G.clos k H f xs).mpr ⟨hk, h⟩) G.mo B (ok__law_heard G) (da_cons (de_lam 1 mk (cd := cd_1) rfl (own.sc 1 _ rfl) rfl) da_nil)) de_int))
 (dss_cons (ds_if (DW.t (dw_or (dt_not (de_tst (de_isx [false, false, true, false] G.ask G.i_BadText G.f_isinstance G.c_BadText (de_var 14)))) (dw_or (dt_c (cm_neG B.units) (de_b (c_repr hG B.units) G.f_repr boot_repr (da_cons (de_fld 4 G.ask (de_var 14)) da_nil)) (de_b (c_repr hG B.units) G.f_repr boot_repr (da_cons (de_var 13) da_nil))) (dw_or1 (dt_c cm_nisG (de_call B ((ok_can_be_read_as_graph G).wide (openM_agr M _ own__law_right) G.mo) (da_cons (de_var 13) da_nil)) de_bl))))) (dss_one (ds_ret de_bl)) dss_nil)
 (dss_cons (ds_set 13 B.nd (de_call B ((ok__law_of G).wide (openM_agr M _ own__law_right) G.mo) (da_cons (de_var 0) (da_cons (DF.frz (df_lst (da_cons de_non (da_cons (de_tup da_nil) (da_cons (de_tup (da_cons (de_tup da_nil) (da_cons (de_tup da_nil) da_nil))) (da_cons (de_tup (da_cons (de_tup (da_cons (de_tup da_nil) da_nil)) (da_cons (de_tup (da_cons (de_tup (da_cons de_int (da_cons de_str (da_cons de_int da_nil)))) da_nil)) da_nil))) da_nil)))))) da_nil))))
 (dss_cons (ds_set 14 B.nd (de_idx (de_callO own (fun k H f xs h hk => (G.clos k H f xs).mpr ⟨hk, h⟩) G.mo B (ok__law_heard G) (da_cons (de_lam 2 mk (cd := cd_2) rfl (own.sc 2 _ rfl) rfl) da_nil)) de_int))
 (dss_one (ds_ret (de_and (de_isx [false, true, false, false] G.ask G.i_BadGraph G.f_isinstance G.c_BadGraph (de_var 14)) (de_one (de_c (cm_eqG B.units) (de_b (c_repr hG B.units) G.f_repr boot_repr (da_cons (de_fld 4 G.ask (de_var 14)) da_nil)) (de_b (c_repr hG B.units) G.f_repr boot_repr (da_cons (de_var 13) da_nil))))))))))))))))))
def b_law : FM :=
 (retM (callM allG (consM (frzM (lcM (seqI (callM x__law_cells (consM (varM 0) (consM (cM (.int 3)) nilM)))) [1] [1] nameT tYesM (callM x__law_right (consM (callM x__law_pot (consM (varM 0) (consM (varM 1) nilM))) nilM)))) nilM)))
def x_law : DL.Fn := subM (bodyM 2 b_law)
theorem ok_law (G : Gf P w M mg base cc pa) : FOkG P w M mg base 10 "law" (top 46) ["script"] x_law := by
  obtain ⟨fd, hF⟩ := G.e_law
  have S : FnScope ["script", "place"] ["script"] (C8.fnScope (top 46)) := ⟨rfl, rfl, rfl, by decide +kernel, rfl, by decide +kernel, by decide +kernel⟩
  have F : FOkG P w M mg base 10 "law" (top 46) ["script"] (bodyM 2 b_law) := ⟨_, fd, hF, fn_dlG hF S (fun X cdv A outer s H E hX B O hG0 => ?_), G.d_law, hF.bindsN fun _ _ _ _ _ _ us hl => match us, hl with | [_], _ => rfl⟩
  · exact F.sub G.mo
  have hG : (cxOf (L2.CX P w) P w M.K mg base ["script", "place"] "law" (C8.fnScope (top 46)) (M.fa 30) cdv A outer s H E).A.guards = some [] := hG0
  exact (dss_one (ds_ret (de_b (c_all B.calm) G.f_all boot_all (da_cons (DF.frz (df_lcB [("place", 1)] B (di_seq (de_call B (ok__law_cells G) (da_cons (de_var 0) (da_cons de_int da_nil)))) rfl (tg_name 1) (by decide) (fun s H C cl fp B1 => (pg_name B1.nd rfl (by first | exact Or.inl rfl | exact Or.inr rfl))) (fun s H C cl fp B1 => dts_nil) (fun s H C cl fp B1 => (de_callG hG B1 (ok__law_right G) (da_cons (de_call B1 (ok__law_pot G) (da_cons (de_var 0) (da_cons (de_var 1) da_nil))) da_nil))))) da_nil))))
end
end K25
end

section
set_option Elab.async false
set_option linter.all false
set_option maxRecDepth 100000
set_option maxHeartbeats 4000000
namespace K25H
open K25
open PySem PySem.Spec PyProof.Rows L2 LamX NdefX He DL
def dd (i : Nat) (x : Str) : DefD := ⟨(x, none), x, x, C8.fnArgs (top i), C8.fnBody (top i), C8.fnScope (top i), [], []⟩
def dn : List DefD := ([dd 8 "is_int", dd 9 "is_rising", dd 10 "is_name", dd 11 "are_names", dd 15 "is_edge", dd 16 "is_graph", dd 17 "look_at_graph", dd 21 "told_number", dd 22 "told_marks", dd 24 "told_lines", dd 25 "print_graph", dd 26 "told_edge", dd 27 "told_row", dd 28 "read_graph", dd 29 "can_be_read_as_graph", dd 31 "_law_pot", dd 32 "_law_take", dd 33 "_law_of", dd 34 "_law_cells", dd 35 "_law_heard", dd 36 "_law_is_bool", dd 37 "_law_marks_drawn", dd 38 "_law_graph_drawn", dd 39 "_law_is_name", dd 40 "_law_are_marks", dd 41 "_law_lines", dd 42 "_law_number", dd 43 "_law_read", dd 44 "_law_is_text_right", dd 45 "_law_right"] : List DefD) ++ ([dd 46 "law"] : List DefD)
def fl : List Fa := ([.free "isinstance", .free "int", .free "bool", .glo "is_int", .free "zip", .free "all", .glo "is_rising", .free "str", .free "len", .int "MOST_LETTERS" 12, .str "LETTERS" "abcdefghijklmnopqrstuvwxyz", .glo "is_name", .free "tuple", .glo "are_names", .glo "is_edge", .int "MOST_NODES" 60, .int "MOST_EDGES" 400, .glo "is_graph", .free "super", .glo "BadGraph", .glo "look_at_graph", .int "MOST_FIGURES" 3, .str "DIGITS" "0123456789", .glo "told_number", .free "list", .free "sorted", .free "set", .glo "told_marks", .glo "told_lines", .glo "print_graph"] : List Fa) ++ ([.glo "told_edge", .glo "told_row", .glo "BadText", .free "enumerate", .glo "NotRead", .glo "read_graph", .glo "can_be_read_as_graph", .free "sum", .free "abs", .glo "_law_pot", .glo "_law_take", .glo "_law_of", .free "min", .free "max", .free "range", .glo "_law_cells", .glo "GraphError", .glo "_law_heard", .glo "_law_is_bool", .glo "_law_marks_drawn", .glo "_law_graph_drawn", .glo "_law_is_name", .glo "_law_are_marks", .glo "_law_lines", .glo "_law_number", .glo "_law_read", .free "repr", .glo "_law_is_text_right", .glo "_law_right", .glo "law"] : List Fa)
def tf : List Defn := [("_law_is_text_right", none), ("_law_right", none)]
def tl : List Tab := []
def fnames : List Str := (["is_int", "is_rising", "is_name", "are_names", "is_edge", "is_graph", "look_at_graph", "told_number", "told_marks", "told_lines", "print_graph", "told_edge", "told_row", "read_graph", "can_be_read_as_graph", "_law_pot", "_law_take", "_law_of", "_law_cells", "_law_heard", "_law_is_bool", "_law_marks_drawn", "_law_graph_drawn", "_law_is_name", "_law_are_marks", "_law_lines", "_law_number", "_law_read", "_law_is_text_right", "_law_right"] : List Str) ++ (["law"] : List Str)
def kdnames : List Str := []
def cnames : List Str := ["GraphError", "BadGraph", "BadText", "NotRead"]
def faOf (K : PySem.W.Frag) (k : Nat) : Addr := if k < 500 then ga K (fnames.getD k Str.empty) else ga K (kdnames.getD (k - 500) Str.empty)
def caOf (K : PySem.W.Frag) (k : Nat) : Addr := ga K (cnames.getD k Str.empty)
def ccOf (K : PySem.W.Frag) (i : Nat) : Addr := (cT K (tf.getD i (Str.empty, none))).1
def paOf (K : PySem.W.Frag) (i : Nat) : Addr := (cT K (tf.getD i (Str.empty, none))).2
def exL (K : PySem.W.Frag) : List Bool := ([decide (paOf K 0 ≠ paOf K 1), decide (paOf K 1 ≠ paOf K 0), iniCB K (ga K "GraphError") (ga K "BadGraph"), decide (PySem.W.findIn K (.ref (ga K "BadGraph")) "__init__" = some (some (.ref (ma K (ga K "GraphError") "__init__")))), decide (PySem.W.typeIn K (.ref (ma K (ga K "GraphError") "__init__")) = some (.type "function")), iniCB K (ga K "GraphError") (ga K "BadText"), decide (PySem.W.findIn K (.ref (ga K "BadText")) "__init__" = some (some (.ref (ma K (ga K "GraphError") "__init__")))), decide (PySem.W.typeIn K (.ref (ma K (ga K "GraphError") "__init__")) = some (.type "function")), iniCB K (ga K "GraphError") (ga K "NotRead"), decide (PySem.W.findIn K (.ref (ga K "NotRead")) "__init__" = some (some (.ref (ma K (ga K "GraphError") "__init__")))), decide (PySem.W.typeIn K (.ref (ma K (ga K "GraphError") "__init__")) = some (.type "function")), decide (PySem.W.exmOne K (.ref (ga K "GraphError")) (.ref (ga K "NotRead")) = some false), decide (PySem.W.exmOne K (.ref (ga K "BadGraph")) (.ref (ga K "NotRead")) = some false), decide (PySem.W.exmOne K (.ref (ga K "BadText")) (.ref (ga K "NotRead")) = some false), decide (PySem.W.exmOne K (.ref (ga K "NotRead")) (.ref (ga K "NotRead")) = some true), decide (PySem.W.exmOne K (.ref (ga K "GraphError")) (.ref (ga K "GraphError")) = some true), decide (PySem.W.exmOne K (.ref (ga K "BadGraph")) (.ref (ga K "GraphError")) = some true), decide (PySem.W.exmOne K (.ref (ga K "BadText")) (.ref (ga K "GraphError")) = some true), decide (PySem.W.exmOne K (.ref (ga K "NotRead")) (.ref (ga K "GraphError")) = some true), askB K (ga K "GraphError"), askB K (ga K "BadGraph"), askB K (ga K "BadText"), askB K (ga K "NotRead"), decide (PySem.W.kitOne K (.ref (ga K "GraphError")) (.ref (ga K "NotRead")) = some false), decide (PySem.W.kitOne K (.ref (ga K "BadGraph")) (.ref (ga K "NotRead")) = some false), decide (PySem.W.kitOne K (.ref (ga K "BadText")) (.ref (ga K "NotRead")) = some false), decide (PySem.W.kitOne K (.ref (ga K "NotRead")) (.ref (ga K "NotRead")) = some true), decide (PySem.W.kitOne K (.ref (ga K "GraphError")) (.ref (ga K "BadText")) = some false), decide (PySem.W.kitOne K (.ref (ga K "BadGraph")) (.ref (ga K "BadText")) = some false), decide (PySem.W.kitOne K (.ref (ga K "BadText")) (.ref (ga K "BadText")) = some true)] : List Bool) ++ ([decide (PySem.W.kitOne K (.ref (ga K "NotRead")) (.ref (ga K "BadText")) = some false), decide (PySem.W.kitOne K (.ref (ga K "GraphError")) (.ref (ga K "BadGraph")) = some false), decide (PySem.W.kitOne K (.ref (ga K "BadGraph")) (.ref (ga K "BadGraph")) = some true), decide (PySem.W.kitOne K (.ref (ga K "BadText")) (.ref (ga K "BadGraph")) = some false), decide (PySem.W.kitOne K (.ref (ga K "NotRead")) (.ref (ga K "BadGraph")) = some false), iniFB K PySem.Challenge.pw_sameoneverygraph_k25_whole_graphs_as_tex.main.file (ga K "GraphError") (ma K (ga K "GraphError") "__init__")] : List Bool)
def exB (K : PySem.W.Frag) : Bool := (exL K).all id
theorem all_get {l : List Bool} (h : l.all id = true) {i : Nat} {b : Bool} (e : l[i]? = some b) : b = true := List.all_eq_true.mp h b (List.mem_of_getElem? e)
def MK (K : PySem.W.Frag) : Mp := stdM K (faOf K) (caOf K) cds (tabL (paOf K))
def sI : Stmt := (nthS 0 (bodyC (top 1)))
theorem words : IniWords PySem.Challenge.pw_sameoneverygraph_k25_whole_graphs_as_tex (C8.fnArgs sI) (C8.fnBody sI) (C8.fnScope sI) := ⟨⟨_, _, _, _, _, _, _, _, _, _, rfl, rfl⟩, ⟨_, rfl, rfl⟩, rfl, rfl, rfl, by decide +kernel, rfl, rfl, rfl, rfl, by decide +kernel, fun _ _ _ _ _ _ _ us hl => match us, hl with | [_, _], _ => rfl⟩
theorem gf {w : World} {K : PySem.W.Frag} {h base : Heap} {mg : Str → Option Value} (X : K.In base) (G : base.Ns mainGlobals mg) (c : SaysX fl dn tl tf exB w h K) (hw : ini0 "GraphError" K = some (C8.fnArgs sI, .stmts (C8.fnBody sI), C8.fnScope sI)) (tb : ∀ p ∈ tf.map (cT K), TabB base mg p.1 p.2) : Gf PySem.Challenge.pw_sameoneverygraph_k25_whole_graphs_as_tex w (MK K) mg base (ccOf K) (paOf K) := by
  have cd : SaysD fl dn K := congrArg (fun z : AlT => z.1) c.t
  have hex : (exL K).all id = true := c.more
  obtain ⟨fdI, hI⟩ := iniF_of words hw (all_get hex (i := 35) rfl)
  exact {
    mo := (stdM_ok _ _ _ _ _),
    clos := (fun _ _ _ _ => Iff.rfl),
    tabs := (rfl),
    tdis := (by
    intro p hp r hr e
    simp only [tabL, List.mem_cons, List.not_mem_nil, or_false] at hp hr
    rcases hp with rfl | rfl <;> rcases hr with rfl | rfl <;> first | rfl | exact absurd e (of_decide_eq_true (all_get hex (i := 0) rfl)) | exact absurd e (of_decide_eq_true (all_get hex (i := 1) rfl))),
    tb__law_is_text_right := (tb _ (by simp [tf])),
    tb__law_right := (tb _ (by simp [tf])),
    f_isinstance := (free_ok X G (cd.fact 0 (f := .free "isinstance") rfl)),
    f_int := (free_ok X G (cd.fact 1 (f := .free "int") rfl)),
    f_bool := (free_ok X G (cd.fact 2 (f := .free "bool") rfl)),
    d_is_int := (glo_ok X G (cd.fact 3 (f := .glo "is_int") rfl)),
    e_is_int := (cd.def_ 0 (d := dd 8 "is_int") rfl),
    f_zip := (free_ok X G (cd.fact 4 (f := .free "zip") rfl)),
    f_all := (free_ok X G (cd.fact 5 (f := .free "all") rfl)),
    d_is_rising := (glo_ok X G (cd.fact 6 (f := .glo "is_rising") rfl)),
    e_is_rising := (cd.def_ 1 (d := dd 9 "is_rising") rfl),
    f_str := (free_ok X G (cd.fact 7 (f := .free "str") rfl)),
    f_len := (free_ok X G (cd.fact 8 (f := .free "len") rfl)),
    g_MOST_LETTERS := (int_ok X G (cd.fact 9 (f := .int "MOST_LETTERS" 12) rfl)),
    g_LETTERS := (str_ok X G (cd.fact 10 (f := .str "LETTERS" "abcdefghijklmnopqrstuvwxyz") rfl)),
    d_is_name := (glo_ok X G (cd.fact 11 (f := .glo "is_name") rfl)),
    e_is_name := (cd.def_ 2 (d := dd 10 "is_name") rfl),
    f_tuple := (free_ok X G (cd.fact 12 (f := .free "tuple") rfl)),
    d_are_names := (glo_ok X G (cd.fact 13 (f := .glo "are_names") rfl)),
    e_are_names := (cd.def_ 3 (d := dd 11 "are_names") rfl),
    d_is_edge := (glo_ok X G (cd.fact 14 (f := .glo "is_edge") rfl)),
    e_is_edge := (cd.def_ 4 (d := dd 15 "is_edge") rfl),
    g_MOST_NODES := (int_ok X G (cd.fact 15 (f := .int "MOST_NODES" 60) rfl)),
    g_MOST_EDGES := (int_ok X G (cd.fact 16 (f := .int "MOST_EDGES" 400) rfl)),
    d_is_graph := (glo_ok X G (cd.fact 17 (f := .glo "is_graph") rfl)),
    e_is_graph := (cd.def_ 5 (d := dd 16 "is_graph") rfl),
    x_BadGraph := (⟨⟨_, _, fdI, hI, iniCB_ok (all_get hex (i := 2) rfl), of_decide_eq_true (all_get hex (i := 3) rfl), of_decide_eq_true (all_get hex (i := 4) rfl)⟩, glo_ok X G (cd.fact 19 (f := .glo "BadGraph") rfl), free_ok X G (cd.fact 18 (f := .free "super") rfl)⟩),
    d_look_at_graph := (glo_ok X G (cd.fact 20 (f := .glo "look_at_graph") rfl)),
    e_look_at_graph := (cd.def_ 6 (d := dd 17 "look_at_graph") rfl),
    g_MOST_FIGURES := (int_ok X G (cd.fact 21 (f := .int "MOST_FIGURES" 3) rfl)),
    g_DIGITS := (str_ok X G (cd.fact 22 (f := .str "DIGITS" "0123456789") rfl)),
    d_told_number := (glo_ok X G (cd.fact 23 (f := .glo "told_number") rfl)),
    e_told_number := (cd.def_ 7 (d := dd 21 "told_number") rfl),
    f_list := (free_ok X G (cd.fact 24 (f := .free "list") rfl)),
    f_sorted := (free_ok X G (cd.fact 25 (f := .free "sorted") rfl)),
    f_set := (free_ok X G (cd.fact 26 (f := .free "set") rfl)),
    d_told_marks := (glo_ok X G (cd.fact 27 (f := .glo "told_marks") rfl)),
    e_told_marks := (cd.def_ 8 (d := dd 22 "told_marks") rfl),
    d_told_lines := (glo_ok X G (cd.fact 28 (f := .glo "told_lines") rfl)),
    e_told_lines := (cd.def_ 9 (d := dd 24 "told_lines") rfl),
    d_print_graph := (glo_ok X G (cd.fact 29 (f := .glo "print_graph") rfl)),
    e_print_graph := (cd.def_ 10 (d := dd 25 "print_graph") rfl),
    d_told_edge := (glo_ok X G (cd.fact 30 (f := .glo "told_edge") rfl)),
    e_told_edge := (cd.def_ 11 (d := dd 26 "told_edge") rfl),
    d_told_row := (glo_ok X G (cd.fact 31 (f := .glo "told_row") rfl)),
    e_told_row := (cd.def_ 12 (d := dd 27 "told_row") rfl),
    x_BadText := (⟨⟨_, _, fdI, hI, iniCB_ok (all_get hex (i := 5) rfl), of_decide_eq_true (all_get hex (i := 6) rfl), of_decide_eq_true (all_get hex (i := 7) rfl)⟩, glo_ok X G (cd.fact 32 (f := .glo "BadText") rfl), free_ok X G (cd.fact 18 (f := .free "super") rfl)⟩),
    f_enumerate := (free_ok X G (cd.fact 33 (f := .free "enumerate") rfl)),
    x_NotRead := (⟨⟨_, _, fdI, hI, iniCB_ok (all_get hex (i := 8) rfl), of_decide_eq_true (all_get hex (i := 9) rfl), of_decide_eq_true (all_get hex (i := 10) rfl)⟩, glo_ok X G (cd.fact 34 (f := .glo "NotRead") rfl), free_ok X G (cd.fact 18 (f := .free "super") rfl)⟩),
    d_read_graph := (glo_ok X G (cd.fact 35 (f := .glo "read_graph") rfl)),
    e_read_graph := (cd.def_ 13 (d := dd 28 "read_graph") rfl),
    c_NotRead := (glo_ok X G (cd.fact 34 (f := .glo "NotRead") rfl)),
    t_NotRead := (fun c b h => match c, h with
    | 0, h => by cases h; exact of_decide_eq_true (all_get hex (i := 11) rfl)
    | 1, h => by cases h; exact of_decide_eq_true (all_get hex (i := 12) rfl)
    | 2, h => by cases h; exact of_decide_eq_true (all_get hex (i := 13) rfl)
    | 3, h => by cases h; exact of_decide_eq_true (all_get hex (i := 14) rfl)
    | n + 4, h => by simp at h),
    d_can_be_read_as_graph := (glo_ok X G (cd.fact 36 (f := .glo "can_be_read_as_graph") rfl)),
    e_can_be_read_as_graph := (cd.def_ 14 (d := dd 29 "can_be_read_as_graph") rfl),
    f_sum := (free_ok X G (cd.fact 37 (f := .free "sum") rfl)),
    f_abs := (free_ok X G (cd.fact 38 (f := .free "abs") rfl)),
    d__law_pot := (glo_ok X G (cd.fact 39 (f := .glo "_law_pot") rfl)),
    e__law_pot := (cd.def_ 15 (d := dd 31 "_law_pot") rfl),
    d__law_take := (glo_ok X G (cd.fact 40 (f := .glo "_law_take") rfl)),
    e__law_take := (cd.def_ 16 (d := dd 32 "_law_take") rfl),
    d__law_of := (glo_ok X G (cd.fact 41 (f := .glo "_law_of") rfl)),
    e__law_of := (cd.def_ 17 (d := dd 33 "_law_of") rfl),
    f_min := (free_ok X G (cd.fact 42 (f := .free "min") rfl)),
    f_max := (free_ok X G (cd.fact 43 (f := .free "max") rfl)),
    f_range := (free_ok X G (cd.fact 44 (f := .free "range") rfl)),
    d__law_cells := (glo_ok X G (cd.fact 45 (f := .glo "_law_cells") rfl)),
    e__law_cells := (cd.def_ 18 (d := dd 34 "_law_cells") rfl),
    c_GraphError := (glo_ok X G (cd.fact 46 (f := .glo "GraphError") rfl)),
    t_GraphError := (fun c b h => match c, h with
    | 0, h => by cases h; exact of_decide_eq_true (all_get hex (i := 15) rfl)
    | 1, h => by cases h; exact of_decide_eq_true (all_get hex (i := 16) rfl)
    | 2, h => by cases h; exact of_decide_eq_true (all_get hex (i := 17) rfl)
    | 3, h => by cases h; exact of_decide_eq_true (all_get hex (i := 18) rfl)
    | n + 4, h => by simp at h),
    d__law_heard := (glo_ok X G (cd.fact 47 (f := .glo "_law_heard") rfl)),
    e__law_heard := (cd.def_ 19 (d := dd 35 "_law_heard") rfl),
    d__law_is_bool := (glo_ok X G (cd.fact 48 (f := .glo "_law_is_bool") rfl)),
    e__law_is_bool := (cd.def_ 20 (d := dd 36 "_law_is_bool") rfl),
    d__law_marks_drawn := (glo_ok X G (cd.fact 49 (f := .glo "_law_marks_drawn") rfl)),
    e__law_marks_drawn := (cd.def_ 21 (d := dd 37 "_law_marks_drawn") rfl),
    d__law_graph_drawn := (glo_ok X G (cd.fact 50 (f := .glo "_law_graph_drawn") rfl)),
    e__law_graph_drawn := (cd.def_ 22 (d := dd 38 "_law_graph_drawn") rfl),
    d__law_is_name := (glo_ok X G (cd.fact 51 (f := .glo "_law_is_name") rfl)),
    e__law_is_name := (cd.def_ 23 (d := dd 39 "_law_is_name") rfl),
    d__law_are_marks := (glo_ok X G (cd.fact 52 (f := .glo "_law_are_marks") rfl)),
    e__law_are_marks := (cd.def_ 24 (d := dd 40 "_law_are_marks") rfl),
    d__law_lines := (glo_ok X G (cd.fact 53 (f := .glo "_law_lines") rfl)),
    e__law_lines := (cd.def_ 25 (d := dd 41 "_law_lines") rfl),
    d__law_number := (glo_ok X G (cd.fact 54 (f := .glo "_law_number") rfl)),
    e__law_number := (cd.def_ 26 (d := dd 42 "_law_number") rfl),
    d__law_read := (glo_ok X G (cd.fact 55 (f := .glo "_law_read") rfl)),
    e__law_read := (cd.def_ 27 (d := dd 43 "_law_read") rfl),
    f_repr := (free_ok X G (cd.fact 56 (f := .free "repr") rfl)),
    ask := (fun c h => match c, h with
    | 0, _ => askB_ok (all_get hex (i := 19) rfl)
    | 1, _ => askB_ok (all_get hex (i := 20) rfl)
    | 2, _ => askB_ok (all_get hex (i := 21) rfl)
    | 3, _ => askB_ok (all_get hex (i := 22) rfl)
    | n + 4, h => absurd h (by omega)),
    i_NotRead := (fun c b h => match c, h with
    | 0, h => by cases h; exact of_decide_eq_true (all_get hex (i := 23) rfl)
    | 1, h => by cases h; exact of_decide_eq_true (all_get hex (i := 24) rfl)
    | 2, h => by cases h; exact of_decide_eq_true (all_get hex (i := 25) rfl)
    | 3, h => by cases h; exact of_decide_eq_true (all_get hex (i := 26) rfl)
    | n + 4, h => by simp at h),
    d__law_is_text_right := (glo_ok X G (cd.fact 57 (f := .glo "_law_is_text_right") rfl)),
    e__law_is_text_right := (let ⟨fd, F⟩ := cd.def_ 28 (d := dd 44 "_law_is_text_right") rfl
    ⟨fd, funC_of (p := ("_law_is_text_right", none)) F rfl⟩),
    c_BadText := (glo_ok X G (cd.fact 32 (f := .glo "BadText") rfl)),
    i_BadText := (fun c b h => match c, h with
    | 0, h => by cases h; exact of_decide_eq_true (all_get hex (i := 27) rfl)
    | 1, h => by cases h; exact of_decide_eq_true (all_get hex (i := 28) rfl)
    | 2, h => by cases h; exact of_decide_eq_true (all_get hex (i := 29) rfl)
    | 3, h => by cases h; exact of_decide_eq_true (all_get hex (i := 30) rfl)
    | n + 4, h => by simp at h),
    c_BadGraph := (glo_ok X G (cd.fact 19 (f := .glo "BadGraph") rfl)),
    i_BadGraph := (fun c b h => match c, h with
    | 0, h => by cases h; exact of_decide_eq_true (all_get hex (i := 31) rfl)
    | 1, h => by cases h; exact of_decide_eq_true (all_get hex (i := 32) rfl)
    | 2, h => by cases h; exact of_decide_eq_true (all_get hex (i := 33) rfl)
    | 3, h => by cases h; exact of_decide_eq_true (all_get hex (i := 34) rfl)
    | n + 4, h => by simp at h),
    d__law_right := (glo_ok X G (cd.fact 58 (f := .glo "_law_right") rfl)),
    e__law_right := (let ⟨fd, F⟩ := cd.def_ 29 (d := dd 45 "_law_right") rfl
    ⟨fd, funC_of (p := ("_law_right", none)) F rfl⟩),
    d_law := (glo_ok X G (cd.fact 59 (f := .glo "law") rfl)),
    e_law := (cd.def_ 30 (d := dd 46 "law") rfl) }
end K25H
end

section
set_option Elab.async false
set_option linter.all false
set_option maxRecDepth 100000
set_option maxHeartbeats 0
namespace K25H
open K25
open PySem PySem.Spec PyProof.Rows L2 LamX NdefX He DL
abbrev R : PySem.W.OpenRow := PySem.W.OpenLaw.row PySem.Challenge.rw_sameoneverygraph_k25_whole_graphs_as_tex
def iw : IniW := some (C8.fnArgs sI, .stmts (C8.fnBody sI), C8.fnScope sI)
abbrev hk : PySem.W.Hook := hookI 8 fl dn tl tf exB "GraphError" iw
def ob (s : PySem.W.SharedT) : AlI := obsI 8 fl dn tl tf exB "GraphError" (HandSHeadRun.getT s)
theorem ob_eq (s : PySem.W.SharedT) : ob s = hk.obs s.abs := obsI_eq (HandSHeadRun.getT_eq s)
def names : List PySem.Str := (["GraphError", "BadGraph", "BadText", "NotRead", "LETTERS", "MOST_LETTERS", "is_int", "is_rising", "is_name", "are_names", "MOST_NODES", "MOST_EDGES", "is_edge", "is_graph", "look_at_graph", "DIGITS", "MOST_FIGURES", "told_number", "told_marks", "told_lines", "print_graph", "told_edge", "told_row", "read_graph", "can_be_read_as_graph", "_law_pot", "_law_take", "_law_of", "_law_cells", "_law_heard"] : List PySem.Str) ++ (["_law_is_bool", "_law_marks_drawn", "_law_graph_drawn", "_law_is_name", "_law_are_marks", "_law_lines", "_law_number", "_law_read", "_law_is_text_right", "_law_right"] : List PySem.Str)
open PySem PySem.W HandSHeadRun in
theorem run (w : World) : HandSHeadRun.RunEq R (PySem.W.view R.prog [46]) hk ob 6000 names w := by
  refine byRow2 "special-get-raises" (P := fun w => HandSHeadRun.RunEq R (PySem.W.view R.prog [46]) hk ob 6000 names w) (fun w => ?_) (fun w => ?_) w
  · intro os
    kernel_rfl
  · intro os
    kernel_rfl
end K25H
end

section
set_option Elab.async false
set_option linter.all false
set_option maxRecDepth 100000
set_option maxHeartbeats 4000000
namespace K25H
open K25
open PySem PySem.Spec PySem.W PySem.Calls PyProof.Rows L2 LamX NdefX He DL
abbrev LW : PySem.W.OpenLaw := PySem.Challenge.rw_sameoneverygraph_k25_whole_graphs_as_tex
theorem law_at (hp : ∀ ns : List Int, ns.length ≤ 63 → Plain x_law ns) {w : World} {mg : Str → Option Value} {fa : Addr} {h : Heap} (Y : hk.says w h) (G : h.Ns mainGlobals mg) (hmg : mg "law" = some (.ref fa)) : ∃ K : PySem.W.Frag, K.In h ∧ LawAtG LW w K (L2.CX LW.prog w) 10 63 "script" mg fa h := by
  obtain ⟨K, KX, c, ini⟩ := Y
  have cd : SaysD fl dn K := congrArg (fun z : AlT => z.1) c.t
  have e0 : mg "law" = some (.ref (ga K "law")) := glo_ok KX G (cd.fact 59 (f := .glo "law") rfl)
  have efa : fa = ga K "law" := by
    rw [hmg] at e0
    exact Value.ref.inj (Option.some.inj e0)
  obtain ⟨fd, F⟩ := cd.def_ 30 (d := dd 46 "law") rfl
  have Fb := FunD.bindsA (ps := ["script"]) F fun _ _ _ _ _ _ us hl => match us, hl with | [_], _ => rfl
  refine ⟨K, KX, fd, tf.map (cT K), spM (MK K) 1 x_law, fun p hp => ?_, fun p hp => ?_, fun p hp => ?_, fun s u => ?_, fun H a ns hl _ hT hS => ?_, fun base KB GB tb => ?_⟩
  · obtain ⟨q, hq, rfl⟩ := List.mem_map.mp hp
    exact c.empty q hq
  · obtain ⟨q, hq, rfl⟩ := List.mem_map.mp hp
    exact c.out q hq
  · obtain ⟨q, hq, rfl⟩ := List.mem_map.mp hp
    exact codeHd_of_K KX (c.hd q hq)
  · exact Fb s [u] rfl
  · refine law_sp (T := tabL (paOf K)) (stdM_ok _ _ _ _ _) rfl (hp ns hl) (fun p hp => ?_) hS
    simp only [tabL, List.mem_cons, List.not_mem_nil, or_false] at hp
    rcases hp with rfl | rfl
    · exact hT _ (List.mem_map.mpr ⟨_, by simp [tf], rfl⟩)
    · exact hT _ (List.mem_map.mpr ⟨_, by simp [tf], rfl⟩)
  · obtain ⟨fa', fd', F', hG, hmg', _⟩ := (ok_law (gf KB GB c ini tb)).ex
    have ea : fa' = fa := by
      rw [hmg] at hmg'
      exact (Value.ref.inj (Option.some.inj hmg')).symm
    subst ea
    have ed : fd' = fd := by
      obtain ⟨_, _, _, _, _, _, _, _, _, _, _, lk, _⟩ := F.ex
      obtain ⟨_, _, _, _, _, _, _, _, _, _, _, lk', _⟩ := F'.ex
      rw [show fAd K (dd 46 "law").at_ = fa' from efa.symm] at lk
      have lk' : K.lookup fa' = some _ := lk'
      rw [lk] at lk'
      have z := Obj.mk.inj (Option.some.inj lk')
      exact (Data.func.inj z.2.2.1).symm
    subst ed
    exact hG
theorem no_cx {P : Program} {w : World} {H : Hp} {s : Shared} {e : Value} {s' : Shared} (h : L2.CX P w [] H s (fun _ _ _ => False) e s') : False := by
  obtain ⟨_, _, _, _, _, _, _, _, _, _, _, _, z⟩ := h
  exact z
theorem law_holds (hp : ∀ ns : List Int, ns.length ≤ 63 → Plain x_law ns) : LW.Holds := by
  w_on; o_law
  refine HandSHeadRun.head_any (r := OpenLaw.row LW) (q := view (OpenLaw.row LW).prog [46]) (H := hk) (ob := ob) (M := 6000) (loose := names) (d := HandSHeadRun.topDef (OpenLaw.row LW).prog 46) (kwd := []) ob_eq
    (by kernel_rfl) (fun s => by kernel_rfl) run (by kernel_rfl) (by kernel_rfl) (by kernel_rfl) (by rfl) (by first | assumption | decide +kernel) (by decide +kernel) ⟨rfl, rfl, rfl, rfl, rfl, by decide +kernel⟩ ?hw ?hc
  case hw => w_witness2
  case hc =>
    refine LamX.walk_ofG (l := LW) (n := 63) (k := 10) (x := "script") (CX := fun w => L2.CX LW.prog w) rfl (by decide) (by kernel_rfl) ⟨rfl, by decide, by decide⟩ ?F (fun _ _ _ _ _ z => no_cx z)
    intro w mg fa h Y G hmg0
    have hmg : mg ("law" : PySem.Str) = some (.ref fa) := by
      have e : (HandSHeadRun.topDef (OpenLaw.row LW).prog 46).name = ("law" : PySem.Str) := by kernel_rfl
      rw [← e]
      exact hmg0
    exact law_at hp Y G hmg
end K25H
end

section
set_option Elab.async false
set_option linter.all false
set_option maxRecDepth 100000
set_option maxHeartbeats 2000000
/-! Plain law, part 1: short ways through the combinators. -/
namespace DL
open PySem PySem.Spec
theorem refs_cons {d : D} {ds : List D} (h : refsOf (d :: ds) = []) : (∀ n, d ≠ .ref n) ∧ refsOf ds = [] := by
  cases d <;> simp only [refsOf] at h
  case ref n =>
    split at h
    · rename_i hm; rw [h] at hm; cases hm
    · cases h
  all_goals exact ⟨fun n z => (nomatch z), h⟩
theorem renum_id {ns : List Nat} : ∀ {ds : List D}, refsOf ds = [] → ds.map (renum ns) = ds
  | [], _ => rfl
  | d :: ds, h => by
    obtain ⟨h1, h2⟩ := refs_cons h
    rw [List.map_cons, renum_id h2]
    cases d <;> first | rfl | exact absurd rfl (h1 _)
theorem frz_low {S : Sto} {n f : Nat} {d : D} (h : lowD n d = true) : frzD S n (f + 1) d = some d := by
  unfold frzD; rw [if_pos h]
theorem frz_lowL {S : Sto} {n f : Nat} : ∀ {ds : List D}, lowL n ds = true → mapO (frzD S n (f + 1)) ds = some ds
  | [], _ => rfl
  | d :: ds, h => by
    simp only [lowL, Bool.and_eq_true] at h
    simp only [mapO, frz_low h.1, frz_lowL h.2]
mutual
theorem low_mono {n m : Nat} (h : n ≤ m) : ∀ (d : D), lowD n d = true → lowD m d = true
  | .non, _ => rfl
  | .bl _, _ => rfl
  | .int _, _ => rfl
  | .str _, _ => rfl
  | .tup ds, q => low_monoL h ds q
  | .lst ds, q => low_monoL h ds q
  | .scr ds, q => low_monoL h ds q
  | .dic _ ds, q => low_monoL h ds q
  | .exc _ v, q => low_mono h v q
  | .fn _, _ => rfl
  | .clo _ _, q => by simp [lowD] at q
  | .ref k, q => by simp only [lowD, decide_eq_true_eq] at q ⊢; omega
theorem low_monoL {n m : Nat} (h : n ≤ m) : ∀ (ds : List D), lowL n ds = true → lowL m ds = true
  | [], _ => rfl
  | d :: ds, q => by
    simp only [lowL, Bool.and_eq_true] at q ⊢
    exact ⟨low_mono h d q.1, low_monoL h ds q.2⟩
end
theorem lowL_all {n : Nat} : ∀ {ds : List D}, lowL n ds = true ↔ ∀ d ∈ ds, lowD n d = true
  | [] => by simp [lowL]
  | d :: ds => by simp [lowL, lowL_all (ds := ds)]
theorem subK_ok {ok : D → Bool} {f : Fn} {S S1 : Sto} {ds : List D} {d : D} (h2 : f [] ds = .ok d S1) (h0 : refsOf ds = [] := by rfl) (h1 : ds.all ok = true := by first | rfl | assumption) (h3 : lowD 0 d = true := by first | rfl | assumption) : subK ok f S ds = .ok d S := by
  unfold subK
  rw [h0]
  simp only [getO, renum_id h0, h2, h1, List.all_nil, Bool.and_self, Bool.true_and, if_true, List.length_nil, List.take_zero, frz_low h3, h3, putO]
theorem subK_er {ok : D → Bool} {f : Fn} {S S1 : Sto} {ds : List D} {d : D} (h2 : f [] ds = .err d S1) (h0 : refsOf ds = [] := by rfl) (h1 : ds.all ok = true := by first | rfl | assumption) (h3 : lowD 0 d = true := by first | rfl | assumption) : subK ok f S ds = .err d S := by
  unfold subK
  rw [h0]
  simp only [getO, renum_id h0, h2, h1, List.all_nil, Bool.and_self, Bool.true_and, if_true, List.length_nil, List.take_zero, frz_low h3, h3, putO]
theorem subK_own {ok : D → Bool} {f : Fn} {S S1 : Sto} {ds es : List D} {n : Nat} (h2 : f [] ds = .ok (.ref n) S1) (h3 : S1[n]? = some (.lst es)) (h4 : lowL 0 es = true := by first | rfl | assumption) (h0 : refsOf ds = [] := by rfl) (h1 : ds.all ok = true := by first | rfl | assumption) : subK ok f S ds = .ok (.lst es) S := by
  have e : frzD S1 0 9 (.ref n) = some (.lst es) := by
    unfold frzD
    rw [if_neg (by simp [lowD])]
    simp only [h3, frz_lowL h4, Option.map_some]
  have e2 : lowD 0 (.lst es) = true := h4
  unfold subK
  rw [h0]
  simp only [getO, renum_id h0, h2, h1, List.all_nil, Bool.and_self, Bool.true_and, if_true, List.length_nil, List.take_zero, e, e2, putO]
theorem subK_pot {ok : D → Bool} {f : Fn} {S S1 : Sto} {ds p p' : List D} {d d' : D} {n : Nat} (hn : S[n]? = some (.lst p)) (hp : lowL 0 p = true) (h2 : f [.lst p] (.ref 0 :: ds) = .ok d S1) (h3 : S1[0]? = some (.lst p')) (hp' : lowL 0 p' = true)
    (hd : frzD S1 1 9 d = some d') (hd' : lowD 0 d' = true) (h0 : refsOf ds = [] := by rfl) (h1 : ds.all ok = true := by first | rfl | assumption) (hok : ok (.ref n) = true := by rfl) : subK ok f S (.ref n :: ds) = .ok d' (S.set n (.lst p')) := by
  have er : refsOf (.ref n :: ds) = [n] := by simp [refsOf, h0]
  have em : (D.ref n :: ds).map (renum [n]) = .ref 0 :: ds := by
    rw [List.map_cons, renum_id h0]
    simp [renum]
  have et : S1.take 1 = [.lst p'] := by
    cases S1 with
    | nil => cases h3
    | cons o r => simp only [List.getElem?_cons_zero, Option.some.injEq] at h3; subst h3; rfl
  unfold subK
  rw [er, em]
  have e1 : (O.lst p :: ([] : Sto)).all (lowO 0) = true := by simp [lowO, hp]
  have e2 : ([O.lst p'] : Sto).all (lowO 0) = true := by simp [lowO, hp']
  have e3 : (D.ref n :: ds).all ok = true := by simp only [List.all_cons, hok, h1, Bool.and_self]
  simp only [getO, hn, e1, e3, h2, Bool.and_self, if_true, List.length_cons, List.length_nil, Nat.zero_add, et, e2, hd, hd', putO]
/-! ### comprehensions that change nothing -/
section
variable {env0 : En} {is : List Nat} {T : D → Option (List D)} {mt : En → Sto → R Bool} {me : En → Sto → R D} {S : Sto}
theorem lcK_pure {w : Wk} {ds : List D} (hw : ∀ i, w.at S i = some ds[i]?) (p : D → Bool) (g : D → D)
    (h : ∀ d ∈ ds, ∃ xs, T d = some xs ∧ mt (setE env0 is xs) S = .ok (p d) S ∧ (p d = true → me (setE env0 is xs) S = .ok (g d) S)) : ∀ (k i : Nat) (acc : List D), k + i = ds.length → acc.length + k ≤ sizeLine →
    lcK w env0 is T mt me k i acc S = .ok (acc ++ ((ds.drop i).filter p).map g) S
  | 0, i, acc, hk, _ => by
    unfold lcK
    have e : ds[i]? = none := by rw [List.getElem?_eq_none_iff]; omega
    have e2 : ds.drop i = [] := by rw [List.drop_eq_nil_iff]; omega
    simp only [hw, e, e2, List.filter_nil, List.map_nil, List.append_nil]
  | k + 1, i, acc, hk, hs => by
    have hi : i < ds.length := by omega
    have e : ds[i]? = some ds[i] := List.getElem?_eq_getElem hi
    have e2 : ds.drop i = ds[i] :: ds.drop (i + 1) := List.drop_eq_getElem_cons hi
    obtain ⟨xs, h1, h2, h3⟩ := h ds[i] (List.getElem_mem hi)
    unfold lcK
    rw [e2]
    cases hp : p ds[i] with
    | false =>
      rw [hp] at h2
      simp only [hw, e, h1, h2, R.go, List.filter_cons, hp]
      rw [if_neg (by simp), if_neg (by simp)]
      exact lcK_pure hw p g h k (i + 1) acc (by omega) (by omega)
    | true =>
      rw [hp] at h2
      simp only [hw, e, h1, h2, R.go, List.filter_cons, hp, if_true, h3 hp]
      rw [if_pos (by omega), lcK_pure hw p g h k (i + 1) _ (by omega) (by simp; omega)]
      simp
theorem lcM_pure {mi : En → Sto → R Wk} {own : List Nat} {env : En} {S0 : Sto} {ds : List D} (p : D → Bool) (g : D → D) (hi : mi env S0 = .ok (.seq ds) S)
    (h : ∀ d ∈ ds, ∃ xs, T d = some xs ∧ mt (setE (wipeE env own) is xs) S = .ok (p d) S ∧ (p d = true → me (setE (wipeE env own) is xs) S = .ok (g d) S)) (hl : ds.length ≤ sizeLine) : lcM mi own is T mt me env S0 = .ok ((ds.filter p).map g) S := by
  unfold lcM
  rw [hi]
  have := lcK_pure (w := .seq ds) (fun i => rfl) p g h ds.length 0 [] (by omega) (by simpa using hl)
  simpa [Wk.cnt] using this
theorem lcM_cell {mi : En → Sto → R Wk} {own : List Nat} {env : En} {S0 : Sto} {n : Nat} {ds : List D} (p : D → Bool) (g : D → D) (hi : mi env S0 = .ok (.cell n) S) (hn : S[n]? = some (.lst ds))
    (h : ∀ d ∈ ds, ∃ xs, T d = some xs ∧ mt (setE (wipeE env own) is xs) S = .ok (p d) S ∧ (p d = true → me (setE (wipeE env own) is xs) S = .ok (g d) S)) (hl : ds.length ≤ sizeLine) : lcM mi own is T mt me env S0 = .ok ((ds.filter p).map g) S := by
  unfold lcM
  rw [hi]
  have := lcK_pure (w := .cell n) (fun i => by simp only [Wk.at, hn]) p g h ds.length 0 [] (by omega) (by simpa using hl)
  simpa [Wk.cnt, hn] using this
/-- all kept, one name -/
theorem lcM_map {mi : En → Sto → R Wk} {j : Nat} {env : En} {S0 : Sto} {ds : List D} (g : D → D) (hi : mi env S0 = .ok (.seq ds) S)
    (h : ∀ d ∈ ds, me ((env.set j none).set j (some d)) S = .ok (g d) S) (hl : ds.length ≤ sizeLine) : lcM mi [j] [j] nameT tYesM me env S0 = .ok (ds.map g) S := by
  rw [lcM_pure (T := nameT) (fun _ => true) g hi (fun d hd => ⟨[d], rfl, rfl, fun _ => h d hd⟩) hl]
  rw [List.filter_eq_self.mpr fun _ _ => rfl]
theorem lcM_filt {mi : En → Sto → R Wk} {j : Nat} {env : En} {S0 : Sto} {ds : List D} (p : D → Bool) (g : D → D) (hi : mi env S0 = .ok (.seq ds) S)
    (h : ∀ d ∈ ds, mt ((env.set j none).set j (some d)) S = .ok (p d) S ∧ (p d = true → me ((env.set j none).set j (some d)) S = .ok (g d) S)) (hl : ds.length ≤ sizeLine) : lcM mi [j] [j] nameT mt me env S0 = .ok ((ds.filter p).map g) S :=
  lcM_pure (T := nameT) p g hi (fun d hd => ⟨[d], rfl, (h d hd).1, (h d hd).2⟩) hl
end
theorem forM_seq {mi : En → Sto → R Wk} {is : List Nat} {T : D → Option (List D)} {b : FM} {env : En} {S S1 : Sto} {ds : List D} (hi : mi env S = .ok (.seq ds) S1) : forM mi is T b env S = forL is T b ds env S1 := by
  unfold forM
  rw [hi]
  exact forK_seq ds 0 env S1 rfl
section
variable {c : En → Sto → R Bool} {b : FM} {n : Nat} {env env1 : En} {S S1 S2 : Sto}
theorem whK_go (h1 : c env S = .ok true S1) (h2 : b env S1 = .nx env1 S2) : whK c b (n + 1) env S = whK c b n env1 S2 := by
  show R.st _ _ _ = _
  rw [h1]; simp only [R.st, if_true, h2]
theorem whK_end (h1 : c env S = .ok false S1) : whK c b (n + 1) env S = .nx env S1 := by
  show R.st _ _ _ = _
  rw [h1]; simp [R.st]
theorem whK_rt {d : D} (h1 : c env S = .ok true S1) (h2 : b env S1 = .rt d S2) : whK c b (n + 1) env S = .rt d S2 := by
  show R.st _ _ _ = _
  rw [h1]; simp only [R.st, if_true, h2]
end
/-! ### plain data of a depth -/
def pdB : Nat → D → Bool
  | _, .non => true
  | _, .bl _ => true
  | _, .int _ => true
  | _, .str s => PyData.strOk s && decide (s.length ≤ 1000000)
  | n + 1, .tup ds => ds.all (pdB n)
  | n + 1, .lst ds => ds.all (pdB n)
  | _, _ => false
theorem pdB_mono : ∀ {n m : Nat} {d : D}, pdB n d = true → n ≤ m → pdB m d = true
  | 0, m, d, h, _ => by cases d <;> simp_all [pdB]
  | n + 1, 0, d, h, hm => by omega
  | n + 1, m + 1, d, h, hm => by
    cases d <;> simp_all [pdB]
    all_goals exact fun x hx => pdB_mono (h x hx) hm
theorem pdB_low : ∀ {n : Nat} {d : D}, pdB n d = true → lowD 0 d = true
  | 0, d, h => by cases d <;> simp_all [pdB, lowD]
  | n + 1, d, h => by
    cases d <;> simp_all [pdB, lowD]
    all_goals exact lowL_all.mpr fun x hx => pdB_low (h x hx)
theorem toPyL_of {n : Nat} : ∀ {ds : List D}, (∀ d ∈ ds, ∃ p, toPy d = some p ∧ p.canLay0 = true ∧ p.depth ≤ n) → ∃ ps, toPyL ds = some ps ∧ PyData.canLayAll0 ps = true ∧ PyData.depthAll ps ≤ n
  | [], _ => ⟨[], rfl, rfl, Nat.zero_le _⟩
  | d :: ds, h => by
    obtain ⟨p, h1, h2, h3⟩ := h d List.mem_cons_self
    obtain ⟨ps, g1, g2, g3⟩ := toPyL_of (ds := ds) fun x hx => h x (List.mem_cons_of_mem _ hx)
    exact ⟨p :: ps, by simp only [toPyL, h1, g1], by simp only [PyData.canLayAll0, h2, g2, Bool.and_self], by simp only [PyData.depthAll]; omega⟩
theorem pdB_py : ∀ {n : Nat} {d : D}, pdB n d = true → ∃ p, toPy d = some p ∧ p.canLay0 = true ∧ p.depth ≤ n
  | 0, d, h => by cases d <;> simp_all [pdB, toPy, PyData.canLay0, PyData.depth]
  | n + 1, d, h => by
    cases d <;> simp_all [pdB, toPy, PyData.canLay0, PyData.depth]
    case tup ds =>
      obtain ⟨ps, h1, h2, h3⟩ := toPyL_of (n := n) fun d hd => pdB_py (h d hd)
      exact ⟨_, ⟨ps, h1, rfl⟩, h2, Nat.succ_le_succ h3⟩
    case lst ds =>
      obtain ⟨ps, h1, h2, h3⟩ := toPyL_of (n := n) fun d hd => pdB_py (h d hd)
      exact ⟨_, ⟨ps, h1, rfl⟩, h2, Nat.succ_le_succ h3⟩
def beqD (d e : D) : Bool := match toPy d, toPy e with
  | some p, some q => PyData.eqv p q
  | _, _ => false
theorem view_pd {S : Sto} {n : Nat} {d : D} (h : pdB n d = true) : view S d = d := by
  cases d <;> first | rfl | (cases n <;> simp [pdB] at h)
theorem eqG_pd {S : Sto} {d e : D} (h : pdB 64 d = true) (g : pdB 64 e = true) : eqG S d e = .ok (beqD d e) S := by
  obtain ⟨p, p1, p2, p3⟩ := pdB_py h
  obtain ⟨q, q1, q2, q3⟩ := pdB_py g
  unfold eqG beqD
  rw [view_pd h, view_pd g, p1, q1]
  have e1 : SeqAt.shaped p = true := by simp [SeqAt.shaped, p2, p3]
  have e2 : SeqAt.shaped q = true := by simp [SeqAt.shaped, q2, q3]
  simp only [e1, e2, Bool.and_self, if_true]
theorem eqG_ref {S : Sto} {n : Nat} {ds : List D} {e : D} (h : S[n]? = some (.lst ds)) : eqG S (.ref n) e = eqG S (.lst ds) e := by
  simp only [eqG, view, h]
theorem neG_pd {S : Sto} {d e : D} (h : pdB 64 d = true) (g : pdB 64 e = true) : neG S d e = .ok (!beqD d e) S := by
  unfold neG
  rw [eqG_pd h g]; rfl
theorem beqD_nil {n : Nat} {ds : List D} (h : pdB n (.lst ds) = true) : beqD (.lst ds) (.lst []) = ds.isEmpty := by
  obtain ⟨p, p1, p2, p3⟩ := pdB_py h
  simp only [toPy, Option.map_eq_some_iff] at p1
  obtain ⟨ps, h1, rfl⟩ := p1
  unfold beqD
  simp only [toPy, h1, toPyL, Option.map_some]
  cases ds with
  | nil => simp only [toPyL, Option.some.injEq] at h1; subst h1; rfl
  | cons d ds =>
    simp only [toPyL] at h1
    split at h1
    · simp only [Option.some.injEq] at h1; subst h1; simp [PyData.eqv, PyData.eqvAll]
    · cases h1
theorem neG_nil {S : Sto} {n : Nat} {ds : List D} (hn : S[n]? = some (.lst ds)) (h : ∀ d ∈ ds, pdB 63 d = true) : neG S (.ref n) (.lst []) = .ok (!ds.isEmpty) S := by
  have e : pdB 64 (.lst ds) = true := by simpa [pdB] using h
  unfold neG
  rw [eqG_ref hn, eqG_pd e rfl, beqD_nil e]; rfl
/-! ### data without truth values: equal as they stand -/
def nbB : Nat → D → Bool
  | _, .non => true
  | _, .int _ => true
  | _, .str _ => true
  | n + 1, .tup ds => ds.all (nbB n)
  | n + 1, .lst ds => ds.all (nbB n)
  | _, _ => false
theorem eqvAll_iff {ds es : List D} {ps qs : List PyData} (hd : toPyL ds = some ps) (he : toPyL es = some qs) (h : ∀ d ∈ ds, ∀ e ∈ es, ∀ p q, toPy d = some p → toPy e = some q → (PyData.eqv p q = true ↔ d = e)) : PyData.eqvAll ps qs = true ↔ ds = es := by
  induction ds generalizing es ps qs with
  | nil =>
    simp only [toPyL, Option.some.injEq] at hd; subst hd
    cases es with
    | nil => simp only [toPyL, Option.some.injEq] at he; subst he; simp [PyData.eqvAll]
    | cons e es =>
      simp only [toPyL] at he
      split at he
      · simp only [Option.some.injEq] at he; subst he; simp [PyData.eqvAll]
      · cases he
  | cons d ds ih =>
    simp only [toPyL] at hd
    split at hd
    · rename_i p ps' h1 h2
      simp only [Option.some.injEq] at hd; subst hd
      cases es with
      | nil => simp only [toPyL, Option.some.injEq] at he; subst he; simp [PyData.eqvAll]
      | cons e es =>
        simp only [toPyL] at he
        split at he
        · rename_i q qs' g1 g2
          simp only [Option.some.injEq] at he; subst he
          simp only [PyData.eqvAll, Bool.and_eq_true, List.cons.injEq]
          rw [h d List.mem_cons_self e List.mem_cons_self p q h1 g1, ih h2 g2 fun x hx y hy => h x (List.mem_cons_of_mem _ hx) y (List.mem_cons_of_mem _ hy)]
        · cases he
    · cases hd
theorem eqv_iff : ∀ {n m : Nat} {d e : D} {p q : PyData}, nbB n d = true → nbB m e = true → toPy d = some p → toPy e = some q → (PyData.eqv p q = true ↔ d = e) := by
  intro n
  induction n with
  | zero =>
    intro m d e p q h g hp hq
    cases d <;> simp only [nbB, Bool.false_eq_true] at h <;> cases e <;> (try (cases m <;> simp only [nbB, Bool.false_eq_true] at g)) <;> simp only [toPy, Option.some.injEq, Option.map_eq_some_iff] at hp hq <;> (try subst hp) <;> (try subst hq) <;> (try obtain ⟨_, _, rfl⟩ := hq) <;> simp [PyData.eqv]
  | succ n ih =>
    intro m d e p q h g hp hq
    cases d <;> simp only [nbB, Bool.false_eq_true] at h <;> cases e <;> (try (cases m <;> simp only [nbB, Bool.false_eq_true] at g)) <;> simp only [toPy, Option.some.injEq, Option.map_eq_some_iff] at hp hq <;> (try subst hp) <;> (try subst hq) <;> (try obtain ⟨_, hq1, rfl⟩ := hq) <;> (try obtain ⟨_, hp1, rfl⟩ := hp) <;> simp [PyData.eqv]
    all_goals
      rw [List.all_eq_true] at h g
      exact eqvAll_iff hp1 hq1 fun d hd e he p q h1 h2 => ih (h d hd) (g e he) h1 h2
theorem beqD_iff {n m : Nat} {d e : D} (h : nbB n d = true) (g : nbB m e = true) {k l : Nat} (hp : pdB k d = true) (hq : pdB l e = true) : beqD d e = true ↔ d = e := by
  obtain ⟨p, p1, _⟩ := pdB_py hp
  obtain ⟨q, q1, _⟩ := pdB_py hq
  unfold beqD
  rw [p1, q1]
  exact eqv_iff h g p1 q1
end DL
end

section
set_option Elab.async false
set_option linter.all false
set_option maxRecDepth 100000
set_option maxHeartbeats 4000000
/-! Plain law: each short form at work. -/
namespace DL
open PySem PySem.Spec
@[simp] theorem l_retM (m : En → Sto → R D) (env : En) (S : Sto) : DL.retM m env S = (m env S).st env fun d S1 => .rt d S1 := rfl
@[simp] theorem l_retNM  (u0 : En) (S : Sto) : DL.retNM u0 S = .rt .non S := rfl
@[simp] theorem l_passM  (env : En) (S : Sto) : DL.passM env S = .nx env S := rfl
@[simp] theorem l_expM (m : En → Sto → R D) (env : En) (S : Sto) : DL.expM m env S = (m env S).st env fun _ S1 => .nx env S1 := rfl
@[simp] theorem l_setM (i : Nat) (m : En → Sto → R D) (env : En) (S : Sto) : DL.setM i m env S = (m env S).st env fun d S1 => .nx (env.set i (some d)) S1 := rfl
@[simp] theorem l_asgM (is : List Nat) (T : D → Option (List D)) (m : En → Sto → R D) (env : En) (S : Sto) : DL.asgM is T m env S = (m env S).st env fun d S1 => match T d with
  | some xs => .nx (setE env is xs) S1
  | none => .stuck := rfl
@[simp] theorem l_parM (i j : Nat) (ms : En → Sto → R (List D)) (env : En) (S : Sto) : DL.parM i j ms env S = (ms env S).st env fun ds S1 => match ds with
  | [a, b] => .nx ((env.set i (some a)).set j (some b)) S1
  | _ => .stuck := rfl
@[simp] theorem l_seqM (m k : FM) (env : En) (S : Sto) : DL.seqM m k env S = match m env S with
  | .nx env1 S1 => k env1 S1
  | r => r := rfl
@[simp] theorem l_ifS (m : En → Sto → R Bool) (a b : FM) (env : En) (S : Sto) : DL.ifS m a b env S = (m env S).st env fun c S1 => if c = true then a env S1 else b env S1 := rfl
@[simp] theorem l_augM (i : Nat) (g : D → D → Option D) (m : En → Sto → R D) (env : En) (S : Sto) : DL.augM i g m env S = match env[i]? with
  | some (some a) => (m env S).st env fun b S1 => match g a b with
    | some c => .nx (env.set i (some c)) S1
    | none => .stuck
  | _ => .stuck := rfl
@[simp] theorem l_raiM (c : Nat) (m : En → Sto → R D) (env : En) (S : Sto) : DL.raiM c m env S = (m env S).st env fun d S1 => .er (.exc c d) env S1 := rfl
@[simp] theorem l_R_st {α : Type} (r : R α) (env : En) (f : α → Sto → RS) : DL.R.st r env f = match r with
  | .ok a S => f a S
  | .err x S => .er x env S
  | .stuck => .stuck := rfl
@[simp] theorem l_varM (i : Nat) (env : En) (S : Sto) : DL.varM i env S = match env[i]? with
  | some (some d) => .ok d S
  | _ => .stuck := rfl
@[simp] theorem l_cM (d : D) (u0 : En) (S : Sto) : DL.cM d u0 S = .ok d S := rfl
@[simp] theorem l_nilM  (u0 : En) (S : Sto) : DL.nilM u0 S = .ok [] S := rfl
@[simp] theorem l_consM (m : En → Sto → R D) (ms : En → Sto → R (List D)) (env : En) (S : Sto) : DL.consM m ms env S = (m env S).bind fun d S1 => (ms env S1).bind fun ds S2 => .ok (d :: ds) S2 := rfl
@[simp] theorem l_tupM (ms : En → Sto → R (List D)) (env : En) (S : Sto) : DL.tupM ms env S = (ms env S).bind fun ds S1 => if ds.length ≤ sizeLine then .ok (.tup ds) S1 else .stuck := rfl
@[simp] theorem l_lstM (ms : En → Sto → R (List D)) (env : En) (S : Sto) : DL.lstM ms env S = (ms env S).bind fun ds S1 => if ds.length ≤ sizeLine then .ok ds S1 else .stuck := rfl
@[simp] theorem l_frzM (ml : En → Sto → R (List D)) (env : En) (S : Sto) : DL.frzM ml env S = (ml env S).bind fun ds S1 => .ok (.lst ds) S1 := rfl
@[simp] theorem l_ownM (ml : En → Sto → R (List D)) (env : En) (S : Sto) : DL.ownM ml env S = (ml env S).bind fun ds S1 => .ok (.ref S1.length) (S1 ++ [.lst ds]) := rfl
@[simp] theorem l_op2M (g : Sto → D → D → R D) (ma mb : En → Sto → R D) (env : En) (S : Sto) : DL.op2M g ma mb env S = (ma env S).bind fun d1 S1 => (mb env S1).bind fun d2 S2 => g S2 d1 d2 := rfl
@[simp] theorem l_truB (S : Sto) (d : D) : DL.truB S d = match truth S d with
  | some b => .ok b S
  | none => .stuck := rfl
@[simp] theorem l_tstM (m : En → Sto → R D) (env : En) (S : Sto) : DL.tstM m env S = (m env S).bind fun d S1 => truB S1 d := rfl
@[simp] theorem l_cmpB (g : Sto → D → D → R Bool) (ma mb : En → Sto → R D) (env : En) (S : Sto) : DL.cmpB g ma mb env S = (ma env S).bind fun d1 S1 => (mb env S1).bind fun d2 S2 => g S2 d1 d2 := rfl
@[simp] theorem l_valM (m : En → Sto → R Bool) (env : En) (S : Sto) : DL.valM m env S = (m env S).bind fun k S1 => .ok (.bl k) S1 := rfl
@[simp] theorem l_chB (g g' : Sto → D → D → R Bool) (ma mb mc : En → Sto → R D) (env : En) (S : Sto) : DL.chB g g' ma mb mc env S = (ma env S).bind fun d1 S1 => (mb env S1).bind fun d2 S2 => (g S2 d1 d2).bind fun k S3 =>
  if k = true then (mc env S3).bind fun d3 S4 => g' S4 d2 d3 else .ok false S3 := rfl
@[simp] theorem l_notB (m : En → Sto → R Bool) (env : En) (S : Sto) : DL.notB m env S = (m env S).bind fun k S1 => .ok (!k) S1 := rfl
@[simp] theorem l_andB (m n : En → Sto → R Bool) (env : En) (S : Sto) : DL.andB m n env S = (m env S).bind fun k S1 => if k = true then n env S1 else .ok false S1 := rfl
@[simp] theorem l_orB (m n : En → Sto → R Bool) (env : En) (S : Sto) : DL.orB m n env S = (m env S).bind fun k S1 => if k = true then .ok true S1 else n env S1 := rfl
@[simp] theorem l_notM (m : En → Sto → R D) (env : En) (S : Sto) : DL.notM m env S = (m env S).bind fun d S1 => (truB S1 d).bind fun k S2 => .ok (.bl (!k)) S2 := rfl
@[simp] theorem l_andM (m n : En → Sto → R D) (env : En) (S : Sto) : DL.andM m n env S = (m env S).bind fun d S1 => (truB S1 d).bind fun k S2 => if k = true then n env S2 else .ok d S2 := rfl
@[simp] theorem l_orM (m n : En → Sto → R D) (env : En) (S : Sto) : DL.orM m n env S = (m env S).bind fun d S1 => (truB S1 d).bind fun k S2 => if k = true then .ok d S2 else n env S2 := rfl
@[simp] theorem l_ifM {α : Type} (t : En → Sto → R Bool) (m n : En → Sto → R α) (env : En) (S : Sto) : DL.ifM t m n env S = (t env S).bind fun k S1 => if k = true then m env S1 else n env S1 := rfl
@[simp] theorem l_callM {α : Type} (g : Sto → List D → R α) (ms : En → Sto → R (List D)) (env : En) (S : Sto) : DL.callM g ms env S = (ms env S).bind fun ds S1 => g S1 ds := rfl
@[simp] theorem l_sliM {α : Type} (g : Sto → D → Option Int → Option Int → R α) (m : En → Sto → R D) (ml mh : En → Sto → R (Option Int)) (env : En) (S : Sto) : DL.sliM g m ml mh env S = 
  (m env S).bind fun d S1 => (ml env S1).bind fun lo S2 => (mh env S2).bind fun hi S3 => g S3 d lo hi := rfl
@[simp] theorem l_noneM  (u0 : En) (S : Sto) : DL.noneM u0 S = .ok none S := rfl
@[simp] theorem l_partM (m : En → Sto → R D) (env : En) (S : Sto) : DL.partM m env S = (m env S).bind fun d S1 => match d with
  | .int i => .ok (some i) S1
  | _ => .stuck := rfl
@[simp] theorem l_seqI (m : En → Sto → R D) (env : En) (S : Sto) : DL.seqI m env S = (m env S).bind fun d S1 => walkO S1 d := rfl
@[simp] theorem l_callI (f : Sto → List D → R Wk) (ms : En → Sto → R (List D)) (env : En) (S : Sto) : DL.callI f ms env S = (ms env S).bind fun ds S1 => f S1 ds := rfl
@[simp] theorem l_isiM (u : Ty) (m : En → Sto → R D) (env : En) (S : Sto) : DL.isiM u m env S = (m env S).bind fun d S1 => match tyName S1 d with
  | some t => .ok (.bl (isTy t u)) S1
  | none => .stuck := rfl
@[simp] theorem l_bodyM (n : Nat) (b : FM) (S : Sto) (ds : List D) : DL.bodyM n b S ds = match b (ds.map some ++ List.replicate (n - ds.length) none) S with
  | .nx _ S1 => .ok .non S1
  | .rt d S1 => .ok d S1
  | .er x _ S1 => .err x S1
  | _ => .stuck := rfl
@[simp] theorem l_tYesM  (u0 : En) (S : Sto) : DL.tYesM u0 S = .ok true S := rfl
@[simp] theorem l_nameT (d : D) : DL.nameT d = some [d] := rfl
@[simp] theorem l_recvM (mo : En → Sto → R D) (k : Nat → En → Sto → R D) (env : En) (S : Sto) : DL.recvM mo k env S = (mo env S).bind fun o S1 => match recv S1 o with
  | some n => k n env S1
  | none => .stuck := rfl
@[simp] theorem l_popM (mo : En → Sto → R D) : DL.popM mo = recvM mo fun n _ S => pop1 S n := rfl
@[simp] theorem l_appM (mo ma : En → Sto → R D) : DL.appM mo ma = recvM mo fun n env S => (ma env S).bind fun d S2 => app1 S2 n d := rfl
@[simp] theorem l_extM (mo ma : En → Sto → R D) : DL.extM mo ma = recvM mo fun n env S => (ma env S).bind fun d S2 => ext1 S2 n d := rfl
@[simp] theorem l_kwM (ma mb : En → Sto → R (List D)) (env : En) (S : Sto) : DL.kwM ma mb env S = (ma env S).bind fun ds S1 => (mb env S1).bind fun es S2 => .ok (ds ++ es) S2 := rfl
@[simp] theorem l_setE (env : En) (i : Nat) (is : List Nat) (d : D) (ds : List D) : DL.setE env (i :: is) (d :: ds) = DL.setE (env.set i (some d)) is ds := rfl
@[simp] theorem l_setE0 (env : En) (ds : List D) : DL.setE env [] ds = env := by cases ds <;> rfl
@[simp] theorem l_tupT (U : List D → Option (List D)) (ds : List D) : DL.tupT U (.tup ds) = U ds := rfl
@[simp] theorem l_lstT (U : List D → Option (List D)) (ds : List D) : DL.lstT U (.lst ds) = U ds := rfl
@[simp] theorem l_moreT0 (T : D → Option (List D)) (U : List D → Option (List D)) : DL.moreT T U [] = none := rfl
@[simp] theorem l_moreT (T : D → Option (List D)) (U : List D → Option (List D)) (d : D) (ds : List D) : DL.moreT T U (d :: ds) = match T d, U ds with
  | some a, some b => some (a ++ b)
  | _, _ => none := rfl
@[simp] theorem l_noT0 : DL.noT [] = some [] := rfl
@[simp] theorem l_noT (d : D) (ds : List D) : DL.noT (d :: ds) = none := rfl
end DL
end

section
set_option Elab.async false
set_option linter.all false
set_option maxRecDepth 100000
set_option maxHeartbeats 4000000
/-! Plain law of k25, part 1: what k00's plain law has, too. -/
namespace K25
open PySem PySem.Spec DL
theorem sizeLine_ge {n : Nat} (h : n ≤ 1000000) : n ≤ sizeLine := by
  have : (1000000 : Nat) ≤ sizeLine := by decide
  omega
@[simp] theorem asS_tup (S : Sto) (ds : List D) : asS S (.tup ds) = some ds := rfl
@[simp] theorem asS_lst (S : Sto) (ds : List D) : asS S (.lst ds) = some ds := rfl
@[simp] theorem asL_lst (S : Sto) (ds : List D) : asL S (.lst ds) = some ds := rfl
@[simp] theorem asX_lst (S : Sto) (ds : List D) : asX S (.lst ds) = some ds := rfl
theorem asX_ref {S : Sto} {n : Nat} {ds : List D} (h : S[n]? = some (.lst ds)) : asX S (.ref n) = some ds := by simp [asX, h]
theorem asL_ref {S : Sto} {n : Nat} {ds : List D} (h : S[n]? = some (.lst ds)) : asL S (.ref n) = some ds := by simp [asL, asX, h]
theorem asS_ref {S : Sto} {n : Nat} {ds : List D} (h : S[n]? = some (.lst ds)) : asS S (.ref n) = some ds := by simp [asS, asL, asX, h]
@[simp] theorem ty_tupD (S : Sto) (ds : List D) : tyName S (.tup ds) = some "tuple" := rfl
@[simp] theorem ty_lstD (S : Sto) (ds : List D) : tyName S (.lst ds) = some "list" := rfl
@[simp] theorem ty_strD (S : Sto) (s : Str) : tyName S (.str s) = some "str" := rfl
@[simp] theorem ty_intD (S : Sto) (i : Int) : tyName S (.int i) = some "int" := rfl
@[simp] theorem ty_blD (S : Sto) (b : Bool) : tyName S (.bl b) = some "bool" := rfl
@[simp] theorem ty_nonD (S : Sto) : tyName S .non = some "NoneType" := rfl
@[simp] theorem tru_bl (S : Sto) (b : Bool) : truth S (.bl b) = some b := rfl
@[simp] theorem idx_0 (S : Sto) (x : D) (r : List D) : idxG S (.tup (x :: r)) (.int 0) = .ok x S := by
  simp [idxG, asS, L2.atI, L2.ixN]
@[simp] theorem idx_1 (S : Sto) (x y : D) (r : List D) : idxG S (.tup (x :: y :: r)) (.int 1) = .ok y S := by
  have h : (1 : Int) < (r.length : Int) + 1 + 1 := by omega
  simp [idxG, asS, L2.atI, L2.ixN, h]
@[simp] theorem idx_2 (S : Sto) (x y z : D) (r : List D) : idxG S (.tup (x :: y :: z :: r)) (.int 2) = .ok z S := by
  have h : (2 : Int) < (r.length : Int) + 1 + 1 + 1 := by omega
  simp [idxG, asS, L2.atI, L2.ixN, h]
@[simp] theorem len_tup (S : Sto) (ds : List D) : lenG S [.tup ds] = .ok (.int ds.length) S := rfl
@[simp] theorem len_lst (S : Sto) (ds : List D) : lenG S [.lst ds] = .ok (.int ds.length) S := rfl
@[simp] theorem tupC_lst (S : Sto) (ds : List D) : tupCG S [.lst ds] = .ok (.tup ds) S := rfl
@[simp] theorem tupC_tup (S : Sto) (ds : List D) : tupCG S [.tup ds] = .ok (.tup ds) S := rfl
@[simp] theorem lstC_tup (S : Sto) (ds : List D) : lstCF S [.tup ds] = .ok ds S := rfl
@[simp] theorem lstC_lst (S : Sto) (ds : List D) : lstCF S [.lst ds] = .ok ds S := rfl
@[simp] theorem ty_t1 : isTy "tuple" .tuple = true := rfl
@[simp] theorem ty_t2 : isTy "tuple" .str = false := rfl
@[simp] theorem ty_t3 : isTy "str" .str = true := rfl
@[simp] theorem ty_t4 : isTy "list" .str = false := rfl
@[simp] theorem ty_t5 : isTy "int" .str = false := rfl
@[simp] theorem ty_t6 : isTy "bool" .str = false := rfl
@[simp] theorem ty_t7 : isTy "NoneType" .str = false := rfl
@[simp] theorem ty_t8 : isTy "list" .tuple = false := rfl
@[simp] theorem ty_t9 : isTy "int" .tuple = false := rfl
@[simp] theorem ty_u1 : isTy "bool" .tuple = false := rfl
@[simp] theorem ty_u2 : isTy "NoneType" .tuple = false := rfl
@[simp] theorem ty_u3 : isTy "str" .tuple = false := rfl
@[simp] theorem ty_u4 : isTy "bool" .bool = true := rfl
@[simp] theorem ty_u5 : isTy "int" .int = true := rfl
@[simp] theorem ty_u6 : isTy "int" .bool = false := rfl
theorem in_flat (S : Sto) (i : Int) (ds : List D) (h : ds.all flatD = true) : inG S (.int i) (.tup ds) = .ok (ds.any fun x => eqF x (.int i)) S := by
  simp [inG, flatD, h]
theorem boolsOf_map (bs : List Bool) : boolsOf (bs.map D.bl) = some bs := by
  induction bs with
  | nil => rfl
  | cons b r ih => simp [boolsOf, ih]
theorem allG_map {α : Type} (S : Sto) (f : α → Bool) (l : List α) : allG S [.lst (l.map fun a => D.bl (f a))] = .ok (.bl (l.all f)) S := by
  have e : (l.map fun a => D.bl (f a)) = (l.map f).map D.bl := by rw [List.map_map]; rfl
  have e2 : (l.map f).all id = l.all f := by simp [List.all_map]
  simp only [allG, asL, e, boolsOf_map, e2]
theorem pd_refs {n : Nat} {d : D} (h : pdB n d = true) (ds : List D) : refsOf (d :: ds) = refsOf ds := by
  cases d <;> first | rfl | (cases n <;> simp [pdB] at h)
theorem pd_argL {n : Nat} {d : D} (h : pdB n d = true) : argL d = true := by simp [argL, pdB_low h]
theorem pd_argN {n : Nat} {d : D} (h : pdB n d = true) : argN d = true := by
  have := pdB_low h
  cases d <;> first | rfl | exact this
def nameC (s : Str) : Bool := s.cps.toList.all fun c => decide (c ∈ ("abcdefghijklmnopqrstuvwxyz" : Str).cps.toList)
def okName (s : Str) : Bool := decide (1 ≤ s.length) && decide (s.length ≤ 12) && nameC s
def nameOk : D → Bool
  | .str s => okName s
  | _ => false
def sgn : D → Bool
  | .str z => decide (z.cps.getD 0 0 ∈ ("abcdefghijklmnopqrstuvwxyz" : Str).cps.toList)
  | _ => false
theorem x_is_name_ok (S : Sto) (d : D) {n : Nat} (h : pdB n d = true) : x_is_name S [d] = .ok (.bl (nameOk d)) S := by
  have hl := pdB_low h
  have hr : refsOf [d] = [] := by rw [pd_refs h]; rfl
  have ha : [d].all argL = true := by simp [pd_argL h]
  suffices e : ∃ S1, bodyM 2 b_is_name [] [d] = .ok (.bl (nameOk d)) S1 by
    obtain ⟨S1, e⟩ := e
    exact subK_ok e hr ha
  cases d with
  | str s =>
    have hz : s.length ≤ sizeLine := sizeLine_ge (by cases n <;> (simp [pdB] at h; exact h.2))
    refine ⟨[], ?_⟩
    by_cases h1 : 1 ≤ s.length
    · have a1 : (1 : Int) ≤ (s.length : Int) := by omega
      by_cases h2 : s.length ≤ 12
      · have a2 : (s.length : Int) ≤ 12 := by omega
        have e := lcM_map (S0 := []) (S := []) (env := [some (.str s), none]) (mi := seqI (varM 0)) (j := 1) (me := valM (cmpB inG (varM 1) (cM (.str "abcdefghijklmnopqrstuvwxyz")))) (ds := signs s) (fun d => .bl (sgn d)) rfl (fun d hd => by
          obtain ⟨c, _, rfl⟩ := List.mem_map.mp hd
          rfl) (by rw [signs, List.length_map]; exact hz)
        have e3 : ((signs s).map fun d => D.bl (sgn d)) = s.cps.toList.map fun c => D.bl (decide (c ∈ ("abcdefghijklmnopqrstuvwxyz" : Str).cps.toList)) := by
          rw [signs, List.map_map]; rfl
        rw [e3] at e
        have e4 : nameOk (.str s) = nameC s := by simp [nameOk, okName, h1, h2]
        simp [b_is_name, lenG, hz, leG, ordG, a1, a2]
        simp [e, allG_map, e4, nameC]
      · have a2 : ¬ (s.length : Int) ≤ 12 := by omega
        have e4 : nameOk (.str s) = false := by simp [nameOk, okName, h2]
        simp [b_is_name, lenG, hz, leG, ordG, a1, a2, e4]
    · have a1 : ¬ (1 : Int) ≤ (s.length : Int) := by omega
      have e4 : nameOk (.str s) = false := by simp [nameOk, okName, h1]
      simp [b_is_name, lenG, hz, leG, ordG, a1, e4]
  | _ => first | (cases n <;> simp [pdB] at h; done) | (refine ⟨[], ?_⟩; simp [b_is_name, nameOk])
@[simp] theorem eq_int (S : Sto) (i j : Int) : eqG S (.int i) (.int j) = .ok (i == j) S := by
  rw [eqG_pd (by rfl) (by rfl)]; rfl
@[simp] theorem ne_int (S : Sto) (i j : Int) : neG S (.int i) (.int j) = .ok (!(i == j)) S := by
  rw [neG_pd (by rfl) (by rfl)]; rfl
@[simp] theorem szl : sizeLine = 16777216 := rfl
def litOk (s : Str) : Bool := PyData.strOk s && decide (s.length ≤ 1000000)
theorem pd_lit {n : Nat} {s : Str} (h : litOk s = true) : pdB n (.str s) = true := by cases n <;> exact h
theorem eq_str {S : Sto} {a b : Str} (h : pdB 64 (.str a) = true) (g : pdB 64 (.str b) = true) : eqG S (.str a) (.str b) = .ok (a == b) S := by
  rw [eqG_pd h g]; rfl
theorem ne_str {S : Sto} {a b : Str} (h : pdB 64 (.str a) = true) (g : pdB 64 (.str b) = true) : neG S (.str a) (.str b) = .ok (!(a == b)) S := by
  rw [neG_pd h g]; rfl
@[simp] theorem sli_tup1 (S : Sto) (x : D) (r : List D) : sliG S (.tup (x :: r)) (some 1) none = .ok (.tup r) S := by
  have e : cutD (x :: r) (some 1) none = r := by simp [cutD, HT.sIx]
  simp [sliG, e]
section
variable {S : Sto} {w : Nat} {l es : List D} {d e : D}
theorem set_get {o v : O} (h : S[w]? = some o) : (S.set w v)[w]? = some v := by
  have hl : w < S.length := by
    rcases Nat.lt_or_ge w S.length with q | q
    · exact q
    · rw [List.getElem?_eq_none_iff.mpr q] at h; cases h
  simp [hl]
theorem recv_ok (h : S[w]? = some (.lst l)) : recv S (.ref w) = some w := by simp [recv, h]
theorem pop_ok (h : S[w]? = some (.lst (l ++ [d]))) : pop1 S w = .ok d (S.set w (.lst l)) := by
  simp [pop1, h]
theorem app_ok (h : S[w]? = some (.lst l)) (hl : l.length < sizeLine) : app1 S w d = .ok .non (S.set w (.lst (l ++ [d]))) := by
  unfold app1; simp only [h, if_pos hl]
theorem ext_ok (h : S[w]? = some (.lst l)) (he : asE S e = some es) (hl : l.length + es.length ≤ sizeLine) : ext1 S w e = .ok .non (S.set w (.lst (l ++ es))) := by
  unfold ext1; simp only [h, he, if_pos hl]
end
theorem in_strs (S : Sto) (k : Str) (l : List Str) : inG S (.str k) (.tup (l.map D.str)) = .ok (decide (k ∈ l)) S := by
  have h1 : (l.map D.str).all flatD = true := by simp [flatD]
  have h2 : ((l.map D.str).any fun x => eqF x (.str k)) = decide (k ∈ l) := by
    rw [List.any_map]
    by_cases h : k ∈ l
    · rw [decide_eq_true h, List.any_eq_true]
      exact ⟨k, h, by simp [eqF]⟩
    · rw [decide_eq_false h, List.any_eq_false]
      intro x hx
      simp only [Function.comp, eqF, beq_iff_eq]
      rintro rfl
      exact h hx
  unfold inG
  simp only [asS_tup, h1, h2, flatD, Bool.and_self, if_true]
theorem in_strsL (S : Sto) (k : Str) (l : List Str) : inG S (.str k) (.lst (l.map D.str)) = .ok (decide (k ∈ l)) S := by
  have := in_strs S k l
  unfold inG at this ⊢
  simpa only [asS_lst, asS_tup] using this
theorem strsOf_map (l : List Str) : strsOf (l.map D.str) = some l := by
  induction l with
  | nil => rfl
  | cons a r ih => simp [strsOf, ih]
theorem lowL_strs (l : List Str) : lowL 0 (l.map D.str) = true := lowL_all.mpr fun d hd => by
  obtain ⟨x, _, rfl⟩ := List.mem_map.mp hd
  rfl
theorem okName_lit {s : Str} (h : okName s = true) : litOk s = true := by
  simp only [okName, Bool.and_eq_true, decide_eq_true_eq] at h
  obtain ⟨⟨h1, h2⟩, h3⟩ := h
  have h4 : PyData.strOk s = true := by
    unfold PyData.strOk
    rw [← Array.all_toList]
    unfold nameC at h3
    rw [List.all_eq_true] at h3 ⊢
    intro c hc
    have h5 := of_decide_eq_true (h3 c hc)
    have h6 : ∀ c ∈ ("abcdefghijklmnopqrstuvwxyz" : Str).cps.toList, c < 0x110000 := by decide +kernel
    simpa using h6 c h5
  simp [litOk, h4]
  omega
def sD (ms : List Str) : D := .tup (ms.map D.str)
theorem low_sD (ms : List Str) : lowD 0 (sD ms) = true := lowL_strs ms
theorem argL_sD (ms : List Str) : argL (sD ms) = true := by simp [argL, low_sD]
theorem argL_int (i : Int) : argL (.int i) = true := by simp [argL, lowD]
theorem argL_str (s : Str) : argL (.str s) = true := by simp [argL, lowD]
/-! ### names -/
def risB (ms : List Str) : Bool := (ms.zip ms.tail).all fun p => strLt p.1 p.2
theorem zipD_strs : ∀ (a b : List Str), zipD (a.map D.str) (b.map D.str) = (a.zip b).map fun p => .tup [.str p.1, .str p.2]
  | [], _ => by simp [zipD]
  | a :: as, [] => by simp [zipD]
  | a :: as, b :: bs => by simp [zipD, zipD_strs as bs]
theorem ris_of : ∀ {ms : List Str}, ms.Pairwise ltS → risB ms = true
  | [], _ => rfl
  | [a], _ => rfl
  | a :: b :: r, h => by
    obtain ⟨h1, h2⟩ := List.pairwise_cons.mp h
    have h3 := ris_of h2
    have h4 : strLt a b = true := decide_eq_true (h1 b (by simp))
    simp only [risB, List.tail_cons, List.zip_cons_cons, List.all_cons, h4, Bool.true_and]
    exact h3
/-! ### worlds -/
/-- texts as a tuple or a list -/
theorem upto_eq : ∀ (n : Nat) (lo : Nat), upto (lo : Int) n = (List.range' lo n).map fun i : Nat => D.int (i : Int)
  | 0, lo => rfl
  | n + 1, lo => by
    have := upto_eq n (lo + 1)
    simp only [upto, List.range'_succ, List.map_cons]
    rw [← this]; simp
theorem rng_ok (S : Sto) (n : Nat) (h : n ≤ 1000000) : rngI1 S [.int (n : Int)] = .ok (.seq ((List.range n).map fun i : Nat => D.int (i : Int))) S := by
  have h1 : fits62 (n : Int) = true := by simp [fits62]; omega
  have := upto_eq n 0
  rw [← List.range_eq_range'] at this
  simp only [rngI1, h1, if_true, Int.toNat_natCast]
  rw [← this]; rfl
theorem lowL_ints (l : List Nat) : lowL 0 (l.map fun w : Nat => D.int (w : Int)) = true := lowL_all.mpr fun d hd => by
  obtain ⟨x, _, rfl⟩ := List.mem_map.mp hd
  rfl
theorem hi2 {m : En → Sto → R (List D)} {env : En} {S S1 : Sto} {n : Nat} (h : m env S = .ok [.int (n : Int)] S1) (hn : n ≤ 1000000) : callI rngI1 m env S = .ok (.seq ((List.range n).map fun i : Nat => D.int (i : Int))) S1 := by
  unfold callI
  rw [h, R.bind_ok, rng_ok S1 n hn]
theorem bits_le {i : Int} {k : Nat} (h : i.natAbs < 2 ^ k) : Builtin.Int.intBits i ≤ k := by
  unfold Builtin.Int.intBits
  split
  · omega
  · rename_i hz
    have hz : i ≠ 0 := by simpa using hz
    have h1 : i.natAbs ≠ 0 := by omega
    have := (Nat.log2_lt h1).mpr h
    omega
theorem mul_ok (S : Sto) {i j : Int} {k l : Nat} (h : i.natAbs < 2 ^ k) (g : j.natAbs < 2 ^ l) (e : k + l ≤ 134217728) : mulG S (.int i) (.int j) = .ok (.int (i * j)) S := by
  have h1 := bits_le h
  have h2 := bits_le g
  have h3 : cMul i j = true := decide_eq_true (by omega)
  simp only [mulG, intG, h3, if_true]
theorem mod_ok (S : Sto) (i : Int) {j : Int} (h : 0 < j) : modG S (.int i) (.int j) = .ok (.int (i.fmod j)) S := by
  have h3 : cMod i j = true := decide_eq_true (by omega)
  simp only [modG, intG, h3, if_true]
theorem div_ok (S : Sto) (i : Int) {j : Int} (h : 0 < j) (h2 : j < 2305843009213693952) : divG S (.int i) (.int j) = .ok (.int (i.fdiv j)) S := by
  have h1 : j.natAbs ≠ 0 := by omega
  have h4 : j.natAbs.log2 < 61 := (Nat.log2_lt h1).mpr (by omega)
  have h3 : cDiv i j = true := decide_eq_true ⟨by omega, by omega⟩
  simp only [divG, intG, h3, if_true]
theorem cube_ok (S : Sto) {i : Int} {k : Nat} (h : i.natAbs < 2 ^ k) (hk : k ≤ 1000) : powG S (.int i) (.int 3) = .ok (.int (i ^ 3)) S := by
  have h1 := bits_le h
  have h3 : cPow i 3 = true := decide_eq_true ⟨by decide, by omega⟩
  simp only [powG, intG, h3, if_true]; rfl
@[simp] theorem add_int (S : Sto) (i j : Int) : addA S (.int i) (.int j) = .ok (.int (i + j)) S := by simp [addA, asX, addG]
@[simp] theorem intC_int (S : Sto) (i : Int) : intCG S [.int i] = .ok (.int i) S := rfl
theorem fmod_rng {x u : Int} (h : 0 < u) : 0 ≤ x.fmod u ∧ x.fmod u < u := ⟨Int.fmod_nonneg_of_pos _ h, Int.fmod_lt_of_pos _ h⟩
/-! ### the pot -/
def potOk (k : Nat) (p : List D) : Prop := ∃ a b c : Int, p = [.int a, .int b, .int c] ∧ 0 ≤ a ∧ 0 ≤ b ∧ b < 2305843009213693952 ∧ 0 ≤ c ∧ c ≤ (k : Int)
theorem potOk.low {k : Nat} {p : List D} (h : potOk k p) : lowL 0 p = true := by
  obtain ⟨a, b, c, rfl, _⟩ := h
  rfl
theorem potOk.le {k l : Nat} {p : List D} (h : potOk k p) (hl : k ≤ l) : potOk l p := by
  obtain ⟨a, b, c, h1, h2, h3, h4, h5, h6⟩ := h
  exact ⟨a, b, c, h1, h2, h3, h4, h5, by omega⟩
def PT (f : Fn) (ds : List D) (c : Nat) (Q : D → Prop) : Prop := ∀ (S : Sto) (n : Nat) (p : List D) (k : Nat), S[n]? = some (.lst p) → potOk k p → k + c ≤ 1000000 → ∃ d p', Q d ∧ potOk (k + c) p' ∧ f S (.ref n :: ds) = .ok d (S.set n (.lst p'))
theorem PT.body {f : Fn} {ds : List D} {c : Nat} {Q : D → Prop} (h0 : refsOf ds = []) (h1 : ds.all argL = true)
    (h : ∀ p k, potOk k p → k + c ≤ 1000000 → ∃ d d' S1 p', f [.lst p] (.ref 0 :: ds) = .ok d S1 ∧ S1[0]? = some (.lst p') ∧ potOk (k + c) p' ∧ frzD S1 1 9 d = some d' ∧ Q d' ∧ lowD 0 d' = true) : PT (subM f) ds c Q := by
  intro S n p k hn hp hk
  obtain ⟨d, d', S1, p', e, e1, e2, e3, e4, e5⟩ := h p k hp hk
  exact ⟨d', p', e4, e2, subK_pot hn hp.low e e1 e2.low e3 e5 h0 h1⟩
theorem PT.body' {f : Fn} {ds : List D} {c : Nat} {Q : D → Prop} (h0 : refsOf ds = []) (h1 : ds.all argL = true)
    (h : ∀ p k, potOk k p → k + c ≤ 1000000 → ∃ d S1 p', f [.lst p] (.ref 0 :: ds) = .ok d S1 ∧ S1[0]? = some (.lst p') ∧ potOk (k + c) p' ∧ Q d ∧ lowD 0 d = true) : PT (subM f) ds c Q :=
  PT.body h0 h1 fun p k hp hk => by
    obtain ⟨d, S1, p', e, e1, e2, e3, e4⟩ := h p k hp hk
    exact ⟨d, d, S1, p', e, e1, e2, frz_low (low_mono (Nat.zero_le 1) d e4), e3, e4⟩
theorem PT.sub {f : Fn} {ds : List D} {c : Nat} {Q : D → Prop} (h : PT f ds c Q) (h0 : refsOf ds = []) (h1 : ds.all argL = true) (hq : ∀ d, Q d → lowD 0 d = true) : PT (subM f) ds c Q :=
  PT.body' h0 h1 fun p k hp hk => by
    obtain ⟨d, p', e1, e2, e3⟩ := h [.lst p] 0 p k rfl hp hk
    exact ⟨d, _, p', e3, rfl, e2, e1, hq d e1⟩
@[simp] theorem idx_p0 (x y z : D) (r : Sto) : idxG (.lst [x, y, z] :: r) (.ref 0) (.int 0) = .ok x (.lst [x, y, z] :: r) := rfl
@[simp] theorem idx_p1 (x y z : D) (r : Sto) : idxG (.lst [x, y, z] :: r) (.ref 0) (.int 1) = .ok y (.lst [x, y, z] :: r) := rfl
@[simp] theorem idx_p2 (x y z : D) (r : Sto) : idxG (.lst [x, y, z] :: r) (.ref 0) (.int 2) = .ok z (.lst [x, y, z] :: r) := rfl
def below (u : Nat) (d : D) : Prop := ∃ t : Nat, d = .int (t : Int) ∧ t < u
theorem below_of {x : Int} {u : Nat} (h : 0 ≤ x ∧ x < (u : Int)) : below u (.int x) := ⟨x.toNat, by rw [Int.toNat_of_nonneg h.1], by omega⟩
def primes : List D := [.int 2147483647, .int 2147483629, .int 2147483587, .int 2147483579, .int 2147483563]
theorem prime_at (S : Sto) {c : Int} (h : 0 ≤ c ∧ c < 5) : ∃ q : Int, idxG S (.lst primes) (.int c) = .ok (.int q) S ∧ 0 < q ∧ q ≤ 2147483647 := by
  have : c = 0 ∨ c = 1 ∨ c = 2 ∨ c = 3 ∨ c = 4 := by omega
  rcases this with rfl | rfl | rfl | rfl | rfl
  · exact ⟨_, rfl, by decide, by decide⟩
  · exact ⟨_, rfl, by decide, by decide⟩
  · exact ⟨_, rfl, by decide, by decide⟩
  · exact ⟨_, rfl, by decide, by decide⟩
  · exact ⟨_, rfl, by decide, by decide⟩
theorem take_ok (u : Nat) (hu : 1 ≤ u) (hu2 : u ≤ 1000) : PT x__law_take [.int (u : Int)] 1 (below u) := by
  refine PT.body' rfl (by simp [argL_int]) fun p k hp hk => ?_
  obtain ⟨a, b, c, rfl, h1, h2, h3, h4, h5⟩ := hp
  have hu0 : (0 : Int) < (u : Int) := by omega
  by_cases ha : 0 < a
  · have e1 := fmod_rng (x := a) hu0
    refine ⟨.int (a.fmod u), [.lst [.int (a.fdiv u), .int b, .int c]], [.int (a.fdiv u), .int b, .int c], ?_, rfl, ⟨_, b, c, rfl, Int.fdiv_nonneg h1 (by omega), h2, h3, h4, by omega⟩, below_of e1, rfl⟩
    simp [b__law_take, ordG, ha, mod_ok _ a hu0, div_ok _ a hu0 (by omega), stoM, L2.ixN]
  · obtain ⟨q, q1, q2, q3⟩ := prime_at [.lst [.int a, .int b, .int (c + 1)]] (fmod_rng (x := c + 1) (u := 5) (by decide))
    have m1 : mulG [.lst [.int a, .int b, .int (c + 1)]] (.int 95257) (.int (c + 1)) = .ok (.int (95257 * (c + 1))) _ := mul_ok _ (k := 20) (l := 30) (by decide) (by omega) (by decide)
    have m2 : mulG [.lst [.int a, .int b, .int (c + 1)]] (.int (95257 * (c + 1))) (.int (c + 1)) = .ok (.int (95257 * (c + 1) * (c + 1))) _ := mul_ok _ (k := 50) (l := 30) (by omega) (by omega) (by decide)
    have hb : 0 ≤ 95257 * (c + 1) * (c + 1) ∧ 95257 * (c + 1) * (c + 1) ≤ 95257 * 1000001 * 1000001 := by
      constructor
      · exact Int.mul_nonneg (by omega) (by omega)
      · have g1 : 95257 * (c + 1) ≤ 95257 * 1000001 := by omega
        exact Int.mul_le_mul g1 (by omega) (by omega) (by omega)
    have m3 : powG [.lst [.int a, .int b, .int (c + 1)]] (.int (b + 95257 * (c + 1) * (c + 1) + 3163)) (.int 3) = .ok (.int ((b + 95257 * (c + 1) * (c + 1) + 3163) ^ 3)) _ := cube_ok _ (k := 62) (by omega) (by decide)
    generalize hX : (b + 95257 * (c + 1) * (c + 1) + 3163) = X at m3
    have f1 := fmod_rng (x := X ^ 3) q2
    have n1 := mod_ok [.lst [.int a, .int b, .int (c + 1)]] (X ^ 3) q2
    generalize hY : (X ^ 3).fmod q = Y at f1 n1
    have f2 := fmod_rng (x := Y) (u := 13441) (by decide)
    have n2 := mod_ok [.lst [.int a, .int b, .int (c + 1)]] Y (j := 13441) (by decide)
    generalize hZ : Y.fmod 13441 = Z at f2 n2
    have m4 : mulG [.lst [.int a, .int b, .int (c + 1)]] (.int 419) (.int (c + 1)) = .ok (.int (419 * (c + 1))) _ := mul_ok _ (k := 20) (l := 30) (by decide) (by omega) (by decide)
    have m5 : mulG [.lst [.int a, .int b, .int (c + 1)]] (.int Y) (.int (Z + 419 * (c + 1))) = .ok (.int (Y * (Z + 419 * (c + 1)))) _ := mul_ok _ (k := 40) (l := 40) (by omega) (by omega) (by decide)
    generalize hV : Y * (Z + 419 * (c + 1)) = V at m5
    have n3 := mod_ok [.lst [.int a, .int b, .int (c + 1)]] V (j := 2305843009213693907) (by decide)
    generalize hU : V.fmod 2305843009213693907 = U at n3
    have n4 := div_ok [.lst [.int a, .int b, .int (c + 1)]] U (j := 229) (by decide) (by decide)
    generalize hR : U.fdiv 229 = R at n4
    have n5 := mod_ok [.lst [.int a, .int b, .int (c + 1)]] R hu0
    have n6 := mod_ok [.lst [.int a, .int b, .int (c + 1)]] (c + 1) (j := 5) (by decide)
    refine ⟨.int (R.fmod u), [.lst [.int a, .int b, .int (c + 1)]], _, ?_, rfl, ⟨a, b, c + 1, rfl, h1, h2, h3, by omega, by omega⟩, below_of (fmod_rng hu0), rfl⟩
    simp only [primes] at q1
    simp [b__law_take, ordG, ha, stoM, L2.ixN, m1, m2, hX, m3, n1, n2, m4, m5, n3, n4, n5, n6, q1]
theorem seq_nx {m k : FM} {env env1 : En} {S S1 : Sto} (h : m env S = .nx env1 S1) : seqM m k env S = k env1 S1 := by
  unfold seqM; rw [h]
theorem seq_rt {m k : FM} {env : En} {S S1 : Sto} {d : D} (h : m env S = .rt d S1) : seqM m k env S = .rt d S1 := by
  unfold seqM; rw [h]
theorem body_rt {n : Nat} {b : FM} {S S1 : Sto} {ds : List D} {d : D} {env : En} (he : ds.map some ++ List.replicate (n - ds.length) none = env) (h : b env S = .rt d S1) : bodyM n b S ds = .ok d S1 := by
  unfold bodyM; rw [he, h]
theorem idx_lst (S : Sto) (l : List D) (i : Nat) (h : i < l.length) : idxG S (.lst l) (.int (i : Int)) = .ok l[i] S := by
  have h3 : (0 : Int) ≤ (i : Int) := by omega
  have h4 : (i : Int) < (l.length : Int) := by omega
  simp only [idxG, asS_lst, L2.atI, L2.ixN, if_pos h3, if_pos h4, Option.bind_some, Int.toNat_natCast, List.getElem?_eq_getElem h]
theorem of_ok (os : List D) (h1 : 1 ≤ os.length) (h2 : os.length ≤ 1000) (hl : lowL 0 os = true) : PT x__law_of [.lst os] 1 (· ∈ os) := by
  have ha : argL (.lst os) = true := by
    have : lowD 0 (.lst os) = true := hl
    simp [argL, this]
  refine PT.body' rfl (by simp [ha]) fun p k hp hk => ?_
  obtain ⟨d, p', ⟨t, rfl, ht⟩, e2, e3⟩ := take_ok os.length h1 h2 [.lst p] 0 p k rfl hp hk
  have e4 := idx_lst [.lst p'] os t ht
  refine ⟨os[t], [.lst p'], p', ?_, rfl, e2, List.getElem_mem ht, lowL_all.mp hl _ (List.getElem_mem ht)⟩
  simp only [List.set_cons_zero] at e3
  simp [b__law_of, e3, e4]
/-! ### some of a pool -/
end K25
end

section
set_option Elab.async false
set_option linter.all false
set_option maxRecDepth 100000
set_option maxHeartbeats 4000000
/-! Plain law of k25, part 2: texts cut at a sign. -/
namespace K25
open PySem PySem.Spec DL
abbrev sg (x : Str) : List Nat := x.cps.toList
def mkS (l : List Nat) : Str := ⟨l.toArray⟩
@[simp] theorem sg_mk (l : List Nat) : sg (mkS l) = l := rfl
@[simp] theorem mk_sg (x : Str) : mkS (sg x) = x := rfl
theorem sg_inj {x y : Str} (h : sg x = sg y) : x = y := TL.ext_tl h
theorem len_sg (x : Str) : x.length = (sg x).length := by simp [Str.length]
@[simp] theorem len_mk (l : List Nat) : (mkS l).length = l.length := by rw [len_sg]; rfl
@[simp] theorem sg_app (x y : Str) : sg (x ++ y) = sg x ++ sg y := TL.tl_append x y
/-- cut at each c -/
def cutW (c : Nat) : List Nat → List (List Nat)
  | [] => [[]]
  | a :: l => if a = c then [] :: cutW c l else match cutW c l with
    | p :: r => (a :: p) :: r
    | [] => [[a]]
theorem cutW_cons (c a : Nat) (l : List Nat) : cutW c (a :: l) = if a = c then [] :: cutW c l else match cutW c l with
    | p :: r => (a :: p) :: r
    | [] => [[a]] := rfl
theorem cutW_ne (c : Nat) : ∀ l : List Nat, cutW c l ≠ []
  | [] => by simp [cutW]
  | a :: l => by
    unfold cutW
    split
    · simp
    · split <;> simp
theorem cutW_free {c : Nat} : ∀ {p : List Nat}, c ∉ p → cutW c p = [p]
  | [], _ => rfl
  | a :: p, h => by
    simp only [List.mem_cons, not_or] at h
    unfold cutW
    rw [if_neg (fun e => h.1 e.symm), cutW_free h.2]
theorem cutW_app {c : Nat} : ∀ (a b : List Nat), cutW c (a ++ c :: b) = cutW c a ++ cutW c b
  | [], b => by
    show cutW c (c :: b) = _
    simp [cutW]
  | x :: a, b => by
    show cutW c (x :: (a ++ c :: b)) = _
    rw [cutW_cons, cutW_cons, cutW_app a b]
    by_cases e : x = c
    · rw [if_pos e, if_pos e]; rfl
    · rw [if_neg e, if_neg e]
      cases h : cutW c a with
      | nil => exact absurd h (cutW_ne c a)
      | cons p r => rfl
theorem cutW_part {c : Nat} {p : List Nat} (h : c ∉ p) (r : List Nat) : cutW c (p ++ c :: r) = p :: cutW c r := by
  rw [cutW_app, cutW_free h]; rfl
theorem split_at (c : Nat) : ∀ l : List Nat, c ∉ l ∨ ∃ p r, l = p ++ c :: r ∧ c ∉ p
  | [] => .inl (by simp)
  | a :: l => by
    by_cases e : a = c
    · exact .inr ⟨[], l, by rw [e]; rfl, by simp⟩
    · rcases split_at c l with h | ⟨p, r, rfl, h⟩
      · exact .inl (by simp only [List.mem_cons, not_or]; exact ⟨fun z => e z.symm, h⟩)
      · exact .inr ⟨a :: p, r, rfl, by simp only [List.mem_cons, not_or]; exact ⟨fun z => e z.symm, h⟩⟩
theorem spl_cutW (c : Nat) : ∀ (n : Nat) (l : List Nat), l.length ≤ n → TL.spl [c] 0 [] l = cutW c l
  | n, l, hn => by
    rcases split_at c l with h | ⟨p, r, rfl, h⟩
    · rw [TL.spl_last1 h, cutW_free h]; rfl
    · cases n with
      | zero => simp at hn
      | succ n =>
        have e := TL.spl_part1 (s := c) (S := []) (p := p) (rest := r) (acc := []) h
        rw [show p ++ ([c] ++ r) = p ++ c :: r from rfl] at e
        rw [e, cutW_part h, spl_cutW c n r (by simp at hn; omega)]; rfl
theorem split_cut (z : Str) {c : Nat} (hc : c < 256) : Txt.split z (mkS [c]) = (cutW c (sg z)).map mkS := by
  refine TL.map_tl_inj ?_
  rw [TL.split_spl z (mkS [c]) (by simp) (TL.kind_ok (by simp [mkS, hc]))]
  rw [show TL.tl (mkS [c]) = [c] from rfl, spl_cutW c _ _ (Nat.le_refl _), List.map_map]
  exact (List.map_id'' (fun _ => rfl) _).symm
theorem cut_len (c : Nat) : ∀ l : List Nat, (cutW c l).length ≤ l.length + 1 ∧ ∀ p ∈ cutW c l, p.length ≤ l.length ∧ (∀ x ∈ p, x ∈ l) ∧ c ∉ p
  | [] => by simp [cutW]
  | a :: l => by
    obtain ⟨h1, h2⟩ := cut_len c l
    unfold cutW
    split
    · refine ⟨by simp; omega, fun p hp => ?_⟩
      rcases List.mem_cons.mp hp with rfl | hp
      · simp
      · obtain ⟨q1, q2, q3⟩ := h2 p hp
        exact ⟨by simp; omega, fun x hx => List.mem_cons_of_mem _ (q2 x hx), q3⟩
    · rename_i ne
      split
      · rename_i p r e
        rw [e] at h1 h2
        refine ⟨by simp at h1 ⊢; omega, fun q hq => ?_⟩
        rcases List.mem_cons.mp hq with rfl | hq
        · obtain ⟨q1, q2, q3⟩ := h2 p List.mem_cons_self
          refine ⟨by simp; omega, fun x hx => ?_, by simp only [List.mem_cons, not_or]; exact ⟨fun z => ne z.symm, q3⟩⟩
          rcases List.mem_cons.mp hx with rfl | hx
          · exact List.mem_cons_self
          · exact List.mem_cons_of_mem _ (q2 x hx)
        · obtain ⟨q1, q2, q3⟩ := h2 q (List.mem_cons_of_mem _ hq)
          exact ⟨by simp; omega, fun x hx => List.mem_cons_of_mem _ (q2 x hx), q3⟩
      · rename_i e
        exact absurd e (cutW_ne c l)
/-- joined -/
def joinW (c : Nat) : List (List Nat) → List Nat
  | [] => []
  | [p] => p
  | p :: q :: r => p ++ c :: joinW c (q :: r)
theorem join_sg (c : Nat) : ∀ parts : List Str, sg (Txt.join (mkS [c]) parts) = joinW c (parts.map sg) := fun parts => by
  have e : ∀ ps : List (List Nat), TL.joinL [c] ps = joinW c ps := fun ps => by
    induction ps with
    | nil => rfl
    | cons p ps ih =>
      cases ps with
      | nil => rfl
      | cons q r => show p ++ ([c] ++ TL.joinL [c] (q :: r)) = p ++ c :: joinW c (q :: r); rw [ih]; rfl
  rw [TL.join_eq, ← e]
  exact TL.tl_join _ _
theorem cut_join (c : Nat) : ∀ {ps : List (List Nat)}, ps ≠ [] → cutW c (joinW c ps) = ps.flatMap (cutW c)
  | [], h => absurd rfl h
  | [p], _ => by simp [joinW]
  | p :: q :: r, _ => by
    show cutW c (p ++ c :: joinW c (q :: r)) = _
    rw [cutW_app, cut_join c (by simp)]; rfl
theorem cut_join_free (c : Nat) {ps : List (List Nat)} (h : ps ≠ []) (hf : ∀ p ∈ ps, c ∉ p) : cutW c (joinW c ps) = ps := by
  rw [cut_join c h]
  induction ps with
  | nil => rfl
  | cons p ps ih =>
    rw [List.flatMap_cons, cutW_free (hf p List.mem_cons_self)]
    cases ps with
    | nil => rfl
    | cons q r => rw [ih (by simp) fun x hx => hf x (List.mem_cons_of_mem _ hx)]; rfl
end K25
end

section
set_option Elab.async false
set_option linter.all false
set_option maxRecDepth 100000
set_option maxHeartbeats 4000000
/-! Plain law of k25, part 3: numbers in words. -/
namespace K25
open PySem PySem.Spec DL
theorem forL_cons {is : List Nat} {T : D → Option (List D)} {b : FM} {d : D} {ds xs : List D} {env env1 : En} {S S1 : Sto} (h1 : T d = some xs) (h2 : b (setE env is xs) S = .nx env1 S1) : forL is T b (d :: ds) env S = forL is T b ds env1 S1 := by
  show (match T d with | none => RS.stuck | some xs => _) = _
  rw [h1]
  simp only [h2]
theorem frz_eq {m : En → Sto → R (List D)} {env : En} {S S1 : Sto} {l : List D} (h : m env S = .ok l S1) : frzM m env S = .ok (.lst l) S1 := by
  unfold frzM; rw [h, R.bind_ok]
/-- plain signs, and not too many -/
def asc (l : List Nat) : Prop := ∀ c ∈ l, c < 128
theorem asc_ok {s : Str} (h : asc (sg s)) : PyData.strOk s = true := by
  show s.cps.all (· < 0x110000) = true
  rw [Array.all_eq_true_iff_forall_mem]
  intro c hc
  have := h c (by simpa [sg] using hc)
  simp; omega
theorem asc_pd {n : Nat} {s : Str} (h : asc (sg s)) (hl : s.length ≤ 1000) : pdB n (.str s) = true := pd_lit (by simp only [litOk, asc_ok h, Bool.true_and, decide_eq_true_eq]; omega)
def digs : List Nat := [48, 49, 50, 51, 52, 53, 54, 55, 56, 57]
theorem digs_eq : ("0123456789" : Str).cps.toList = digs := by decide +kernel
theorem mem_digs {c : Nat} : c ∈ digs ↔ 48 ≤ c ∧ c ≤ 57 := by simp only [digs, List.mem_cons, List.not_mem_nil, or_false]; omega
def dgD : D → Bool
  | .str z => decide (z.cps.getD 0 0 ∈ digs)
  | _ => false
theorem all_digs (S : Sto) (w : Str) (j : Nat) (env : En) (h0 : env[0]? = some (some (.str w))) (hj : 0 < j) (hj2 : j < env.length) (hl : w.length ≤ 1000) :
    callM allG (consM (frzM (lcM (seqI (varM 0)) [j] [j] nameT tYesM (valM (cmpB inG (varM j) (cM (.str "0123456789")))))) nilM) env S = .ok (.bl ((sg w).all fun c => decide (c ∈ digs))) S := by
  have e := lcM_map (S0 := S) (S := S) (env := env) (mi := seqI (varM 0)) (j := j) (me := valM (cmpB inG (varM j) (cM (.str "0123456789")))) (ds := signs w) (fun d => .bl (dgD d)) (by simp [h0, walkO]) (fun d hd => by
    obtain ⟨c, _, rfl⟩ := List.mem_map.mp hd
    have : ((env.set j none).set j (some (D.str ⟨#[c]⟩)))[j]? = some (some (D.str ⟨#[c]⟩)) := by simp [hj2]
    simp only [l_valM, l_cmpB, l_varM, this, l_cM, R.bind_ok, inG]
    rw [if_pos (show (#[c] : Array Nat).size = 1 from rfl), digs_eq]; rfl) (by rw [signs, List.length_map, ← len_sg]; simp; omega)
  have e3 : ((signs w).map fun d => D.bl (dgD d)) = (sg w).map fun c => D.bl (decide (c ∈ digs)) := by
    rw [signs, List.map_map]; rfl
  rw [e3] at e
  have e2 := frz_eq e
  simp only [l_callM, l_consM, l_nilM, e2, R.bind_ok, allG_map]
/-- what a word tells -/
def numW (w : Str) : Option Nat := if 1 ≤ w.length ∧ w.length ≤ 3 ∧ (∀ c ∈ sg w, c ∈ digs) ∧ (w.length = 1 ∨ (sg w)[0]? ≠ some 48) then some (NumText.digitsVal (sg w)) else none
def numD (w : Str) : D := match numW w with
  | some n => .int n
  | none => .non
theorem vals_lt : ∀ (l : List Nat) (a : Nat), (∀ c ∈ l, c ∈ digs) → a < 10 ^ (6 - l.length) → l.length ≤ 6 → l.foldl (fun acc c => acc * 10 + (c - 48)) a < 10 ^ 6
  | [], a, _, h, _ => by simpa using h
  | c :: l, a, h, ha, hl => by
    have hc := mem_digs.mp (h c List.mem_cons_self)
    simp only [List.length_cons] at ha hl
    refine vals_lt l (a * 10 + (c - 48)) (fun x hx => h x (List.mem_cons_of_mem _ hx)) ?_ (by omega)
    have e : 10 ^ (6 - l.length) = 10 ^ (6 - (l.length + 1)) * 10 := by rw [← Nat.pow_succ]; congr 1; omega
    rw [e]
    omega
def numB : FM := (setM 1 (op2M addA (op2M mulG (cM (.int 10)) (varM 1)) (sm1 sindG (cM (.str "0123456789")) (varM 2))))
theorem sind_ok (S : Sto) {c : Nat} (h : c ∈ digs) : sindG S "0123456789" (.str ⟨#[c]⟩) = .ok (.int ((c - 48 : Nat) : Int)) S := by
  simp only [digs, List.mem_cons, List.not_mem_nil, or_false] at h
  have go : ∀ k : Nat, k < 10 → Builtin.Str.occurrences ("0123456789" : Str) ⟨#[48 + k]⟩ 0 ("0123456789" : Str).length 1 = [k] := by decide +kernel
  obtain ⟨k, rfl, hk⟩ : ∃ k, c = 48 + k ∧ k < 10 := ⟨c - 48, by omega, by omega⟩
  simp only [sindG, go k hk]
  rw [show 48 + k - 48 = k by omega]
theorem num_loop (S : Sto) (w : Option D) : ∀ (l : List Nat) (a : Nat) (x : Option D), (∀ c ∈ l, c ∈ digs) → a < 10 ^ (6 - l.length) → l.length ≤ 6 →
    ∃ x', forL [2] nameT numB (l.map fun c => D.str ⟨#[c]⟩) [w, some (.int (a : Int)), x] S = .nx [w, some (.int ((l.foldl (fun acc c => acc * 10 + (c - 48)) a : Nat) : Int)), x'] S
  | [], a, x, _, _, _ => ⟨x, rfl⟩
  | c :: l, a, x, h, ha, hl => by
    have hc := mem_digs.mp (h c List.mem_cons_self)
    simp only [List.length_cons] at ha hl
    have hb : a * 10 + (c - 48) < 10 ^ (6 - l.length) := by
      have e : 10 ^ (6 - l.length) = 10 ^ (6 - (l.length + 1)) * 10 := by rw [← Nat.pow_succ]; congr 1; omega
      rw [e]
      omega
    obtain ⟨x', e⟩ := num_loop S w l (a * 10 + (c - 48)) (some (D.str ⟨#[c]⟩)) (fun y hy => h y (List.mem_cons_of_mem _ hy)) hb (by omega)
    refine ⟨x', ?_⟩
    rw [List.map_cons, List.foldl_cons, ← e]
    have ha6 : a < 10 ^ 6 := Nat.lt_of_lt_of_le ha (Nat.pow_le_pow_right (by decide) (by omega))
    have m : mulG S (.int 10) (.int (a : Int)) = .ok (.int (10 * (a : Int))) S := mul_ok S (k := 10) (l := 30) (by decide) (by omega) (by decide)
    have s1 := sind_ok S (h c List.mem_cons_self)
    have ee : 10 * (a : Int) + ((c - 48 : Nat) : Int) = ((a * 10 + (c - 48) : Nat) : Int) := by omega
    refine forL_cons (T := nameT) (xs := [D.str ⟨#[c]⟩]) rfl ?_
    show numB [w, some (.int (a : Int)), some (D.str ⟨#[c]⟩)] S = _
    simp only [numB, l_setM, l_op2M, l_cM, l_varM, List.getElem?_cons_succ, List.getElem?_cons_zero, R.bind_ok, m, sm1, s1, add_int, ee, l_R_st, List.set_cons_succ, List.set_cons_zero]
theorem idx_str (S : Sto) (w : Str) (hl : w.length ≤ 1000) (h1 : 1 ≤ w.length) : ∃ c, (sg w)[0]? = some c ∧ idxG S (.str w) (.int 0) = .ok (.str ⟨#[c]⟩) S := by
  have e : w.length = (sg w).length := len_sg w
  cases q : sg w with
  | nil => rw [q] at e; simp at e; omega
  | cons c r =>
    refine ⟨c, rfl, ?_⟩
    have hz : w.length ≤ sizeLine := by simp; omega
    have h2 : L2.atI w.cps.toList 0 = some c := by
      rw [show w.cps.toList = c :: r from q]; simp [L2.atI, L2.ixN]
    simp only [idxG, if_pos hz, h2]
theorem one_pd {c : Nat} (n : Nat) (h : c < 128) : pdB n (.str ⟨#[c]⟩) = true := asc_pd (fun x hx => by simp [sg] at hx; omega) (by simp [Str.length])
theorem one_beq {c d : Nat} : ((⟨#[c]⟩ : Str) == ⟨#[d]⟩) = decide (c = d) := by
  by_cases e : c = d
  · subst e; simp
  · rw [decide_eq_false e, beq_eq_false_iff_ne]
    intro h
    exact e (by injection h with h; simpa using h)
theorem zero_lit : ("0" : Str) = ⟨#[48]⟩ := by rfl
theorem digits_asc {w : Str} (h : ∀ c ∈ sg w, c ∈ digs) : asc (sg w) := fun c hc => by
  have := mem_digs.mp (h c hc); omega
theorem allv (w : Str) : ((sg w).all fun c => decide (c ∈ digs)) = decide (∀ c ∈ sg w, c ∈ digs) := by
  by_cases h : ∀ c ∈ sg w, c ∈ digs
  · rw [decide_eq_true h, List.all_eq_true]
    exact fun c hc => decide_eq_true (h c hc)
  · rw [decide_eq_false h]
    cases q : (sg w).all fun c => decide (c ∈ digs) with
    | false => rfl
    | true => exact absurd (fun c hc => of_decide_eq_true (List.all_eq_true.mp q c hc)) h
theorem told_number_ok (S : Sto) (w : Str) (hl : w.length ≤ 1000) : x_told_number S [.str w] = .ok (numD w) S := by
  have hz : w.length ≤ sizeLine := by simp; omega
  have lw : ∀ S, lenG S [.str w] = .ok (.int w.length) S := fun S => by simp only [lenG, if_pos hz]
  have hlow : lowD 0 (numD w) = true := by unfold numD; split <;> rfl
  refine subK_ok (ok := argL) (S1 := []) (ds := [.str w]) ?_ rfl rfl hlow
  have hb : b_told_number = seqM (ifS (orB (notB (chB leG leG (cM (.int 1)) (callM lenG (consM (varM 0) nilM)) (cM (.int 3)))) (notB (tstM (callM allG (consM (frzM (lcM (seqI (varM 0)) [2] [2] nameT tYesM (valM (cmpB inG (varM 2) (cM (.str "0123456789")))))) nilM))))) (retM (cM .non)) passM)
      (seqM (ifS (andB (cmpB gtG (callM lenG (consM (varM 0) nilM)) (cM (.int 1))) (cmpB eqG (op2M idxG (varM 0) (cM (.int 0))) (cM (.str "0")))) (retM (cM .non)) passM)
      (seqM (setM 1 (cM (.int 0))) (seqM (forM (seqI (varM 0)) [2] nameT numB) (retM (varM 1))))) := rfl
  have e1 := all_digs [] w 2 [some (.str w), none, none] rfl (by decide) (by simp) hl
  rw [allv] at e1
  by_cases h1 : 1 ≤ w.length ∧ w.length ≤ 3
  · have a1 : (1 : Int) ≤ (w.length : Int) := by omega
    have a2 : (w.length : Int) ≤ 3 := by omega
    by_cases h2 : ∀ c ∈ sg w, c ∈ digs
    · rw [decide_eq_true h2] at e1
      obtain ⟨c, hc, hi⟩ := idx_str [] w hl h1.1
      have hcd : c ∈ digs := h2 c (List.mem_of_getElem? hc)
      have c128 : c < 128 := by have := mem_digs.mp hcd; omega
      have e2 : eqG [] (.str ⟨#[c]⟩) (.str "0") = .ok (decide (c = 48)) [] := by
        rw [zero_lit, eq_str (one_pd 64 c128) (one_pd 64 (by decide)), one_beq]
      obtain ⟨x', e3⟩ := num_loop [] (some (.str w)) (sg w) 0 none h2 (Nat.pow_pos (by decide)) (by rw [← len_sg]; omega)
      have e4 := forM_seq (mi := seqI (varM 0)) (is := [2]) (T := nameT) (b := numB) (env := [some (.str w), some (.int 0), none]) (S := []) (S1 := []) (ds := signs w) (by simp [walkO])
      rw [show signs w = (sg w).map fun c => D.str ⟨#[c]⟩ from rfl, show (some (D.int 0) : Option D) = some (.int ((0 : Nat) : Int)) from rfl, e3] at e4
      refine body_rt (env := [some (.str w), none, none]) rfl ?_
      rw [hb]
      by_cases h3 : w.length = 1 ∨ c ≠ 48
      · have en : numD w = .int (NumText.digitsVal (sg w)) := by
          have : numW w = some (NumText.digitsVal (sg w)) := if_pos ⟨h1.1, h1.2, h2, by rw [hc]; rcases h3 with h | h; exact .inl h; exact .inr (by simpa using h)⟩
          unfold numD; rw [this]
        rw [en]
        rw [seq_nx (env1 := [some (.str w), none, none]) (S1 := []) (by
          simp only [l_ifS, l_orB, l_notB, l_chB, l_cM, R.bind_ok, l_callM, l_consM, l_varM, l_nilM, List.getElem?_cons_zero, lw, ordG, decide_eq_true a1, decide_eq_true a2, if_true, Bool.not_true, Bool.false_eq_true, if_false, l_tstM]
          simp only [l_callM, l_consM, l_nilM, R.bind_ok] at e1
          simp only [e1, l_truB, truth, R.bind_ok, Bool.not_true, l_R_st, Bool.false_eq_true, if_false, l_passM])]
        rw [seq_nx (env1 := [some (.str w), none, none]) (S1 := []) (by
          rcases h3 with h | h
          · have : ¬ (1 : Int) < (w.length : Int) := by omega
            simp [lw, ordG, this]
          · simp [lw, ordG, hi, e2, h]
            try (split <;> rfl))]
        rw [seq_nx (show setM 1 (cM (.int 0)) [some (.str w), none, none] [] = .nx [some (.str w), some (.int ((0 : Nat) : Int)), none] [] from rfl)]
        rw [seq_nx e4]
        rfl
      · simp only [not_or, Classical.not_not] at h3
        have en : numD w = .non := by
          have : numW w = none := if_neg fun q => by
            have := q.2.2.2
            rw [hc] at this
            rcases this with z | z
            · exact h3.1 z
            · exact z (by rw [h3.2])
          unfold numD; rw [this]
        rw [en]
        have h4 : (1 : Int) < (w.length : Int) := by have := h3.1; omega
        rw [seq_nx (env1 := [some (.str w), none, none]) (S1 := []) (by
          simp only [l_ifS, l_orB, l_notB, l_chB, l_cM, R.bind_ok, l_callM, l_consM, l_varM, l_nilM, List.getElem?_cons_zero, lw, ordG, decide_eq_true a1, decide_eq_true a2, if_true, Bool.not_true, Bool.false_eq_true, if_false, l_tstM]
          simp only [l_callM, l_consM, l_nilM, R.bind_ok] at e1
          simp only [e1, l_truB, truth, R.bind_ok, Bool.not_true, l_R_st, Bool.false_eq_true, if_false, l_passM])]
        obtain ⟨_, rfl⟩ := h3
        refine seq_rt ?_
        simp [lw, ordG, h4, hi, e2]
    · rw [decide_eq_false h2] at e1
      have en : numD w = .non := by
        have : numW w = none := if_neg fun q => h2 q.2.2.1
        unfold numD; rw [this]
      rw [en]
      refine body_rt (env := [some (.str w), none, none]) rfl ?_
      rw [hb]
      refine seq_rt ?_
      simp only [l_ifS, l_orB, l_notB, l_chB, l_cM, R.bind_ok, l_callM, l_consM, l_varM, l_nilM, List.getElem?_cons_zero, lw, ordG, decide_eq_true a1, decide_eq_true a2, if_true, Bool.not_true, Bool.false_eq_true, if_false, l_tstM]
      simp only [l_callM, l_consM, l_nilM, R.bind_ok] at e1
      simp only [e1, l_truB, truth, R.bind_ok, Bool.not_false, l_R_st, if_true, l_retM, l_cM]
  · have en : numD w = .non := by
      have : numW w = none := if_neg fun q => h1 ⟨q.1, q.2.1⟩
      unfold numD; rw [this]
    rw [en]
    refine body_rt (env := [some (.str w), none, none]) rfl ?_
    rw [hb]
    refine seq_rt ?_
    by_cases g1 : 1 ≤ w.length
    · have a1 : (1 : Int) ≤ (w.length : Int) := by omega
      have a2 : ¬ (w.length : Int) ≤ 3 := by omega
      simp [lw, ordG, a1, a2]
    · have a1 : ¬ (1 : Int) ≤ (w.length : Int) := by omega
      simp [lw, ordG, a1]
theorem law_number_ok (S : Sto) (w : Str) (hl : w.length ≤ 1000) : x__law_number S [.str w] = .ok (numD w) S := by
  have hz : w.length ≤ sizeLine := by simp; omega
  have lw : ∀ S, lenG S [.str w] = .ok (.int w.length) S := fun S => by simp only [lenG, if_pos hz]
  have hlow : lowD 0 (numD w) = true := by unfold numD; split <;> rfl
  refine subK_ok (ok := argL) (S1 := []) (ds := [.str w]) ?_ rfl rfl hlow
  have e1 := all_digs [] w 1 [some (.str w), none] rfl (by decide) (by simp) hl
  rw [allv] at e1
  refine body_rt (env := [some (.str w), none]) rfl ?_
  unfold b__law_number
  by_cases h1 : 1 ≤ w.length ∧ w.length ≤ 3
  · have a1 : (1 : Int) ≤ (w.length : Int) := by omega
    have a2 : (w.length : Int) ≤ 3 := by omega
    by_cases h2 : ∀ c ∈ sg w, c ∈ digs
    · rw [decide_eq_true h2] at e1
      obtain ⟨c, hc, hi⟩ := idx_str [] w hl h1.1
      have hcd : c ∈ digs := h2 c (List.mem_of_getElem? hc)
      have c128 : c < 128 := by have := mem_digs.mp hcd; omega
      have e2 : neG [] (.str ⟨#[c]⟩) (.str "0") = .ok (!decide (c = 48)) [] := by
        rw [zero_lit, ne_str (one_pd 64 c128) (one_pd 64 (by decide)), one_beq]
      have hne : sg w ≠ [] := fun z => by rw [len_sg, z] at h1; simp at h1
      have e5 : PySem.intText? w = some ((NumText.digitsVal (sg w) : Nat) : Int) := PySem.intText_digits (fun c hc => mem_digs.mp (h2 c hc)) hne (by omega)
      rw [seq_nx (env1 := [some (.str w), none]) (S1 := []) (by
        simp only [l_ifS, l_orB, l_notB, l_chB, l_cM, R.bind_ok, l_callM, l_consM, l_varM, l_nilM, List.getElem?_cons_zero, lw, ordG, decide_eq_true a1, decide_eq_true a2, if_true, Bool.not_true, Bool.false_eq_true, if_false, l_tstM]
        simp only [l_callM, l_consM, l_nilM, R.bind_ok] at e1
        simp only [e1, l_truB, truth, R.bind_ok, Bool.not_true, l_R_st, Bool.false_eq_true, if_false, l_passM])]
      have h640 : w.length ≤ 640 := by omega
      by_cases h3 : w.length = 1
      · have en : numD w = .int (NumText.digitsVal (sg w)) := by
          have : numW w = some (NumText.digitsVal (sg w)) := if_pos ⟨h1.1, h1.2, h2, .inl h3⟩
          unfold numD; rw [this]
        rw [en]
        simp [lw, h3, intTG, e5, h640]
      · have h4 : ¬ (w.length : Int) = 1 := by omega
        by_cases h5 : c = 48
        · have en : numD w = .non := by
            have : numW w = none := if_neg fun q => by
              have := q.2.2.2
              rw [hc] at this
              rcases this with z | z
              · exact h3 z
              · exact z (by rw [h5])
            unfold numD; rw [this]
          rw [en]
          subst h5
          simp [lw, h4, hi, e2]
        · have en : numD w = .int (NumText.digitsVal (sg w)) := by
            have : numW w = some (NumText.digitsVal (sg w)) := if_pos ⟨h1.1, h1.2, h2, .inr (by rw [hc]; simpa using h5)⟩
            unfold numD; rw [this]
          rw [en]
          simp [lw, h4, hi, e2, h5, intTG, e5, h640]
    · rw [decide_eq_false h2] at e1
      have en : numD w = .non := by
        have : numW w = none := if_neg fun q => h2 q.2.2.1
        unfold numD; rw [this]
      rw [en]
      refine seq_rt ?_
      simp only [l_ifS, l_orB, l_notB, l_chB, l_cM, R.bind_ok, l_callM, l_consM, l_varM, l_nilM, List.getElem?_cons_zero, lw, ordG, decide_eq_true a1, decide_eq_true a2, if_true, Bool.not_true, Bool.false_eq_true, if_false, l_tstM]
      simp only [l_callM, l_consM, l_nilM, R.bind_ok] at e1
      simp only [e1, l_truB, truth, R.bind_ok, Bool.not_false, l_R_st, if_true, l_retM, l_cM]
  · have en : numD w = .non := by
      have : numW w = none := if_neg fun q => h1 ⟨q.1, q.2.1⟩
      unfold numD; rw [this]
    rw [en]
    refine seq_rt ?_
    by_cases g1 : 1 ≤ w.length
    · have a1 : (1 : Int) ≤ (w.length : Int) := by omega
      have a2 : ¬ (w.length : Int) ≤ 3 := by omega
      simp [lw, ordG, a1, a2]
    · have a1 : ¬ (1 : Int) ≤ (w.length : Int) := by omega
      simp [lw, ordG, a1]
end K25
end

section
set_option Elab.async false
set_option linter.all false
set_option maxRecDepth 100000
set_option maxHeartbeats 4000000
/-! Plain law of k25, part 4: names, marks. -/
namespace K25
open PySem PySem.Spec DL
def lt2 : D → Bool
  | .tup [.str a, .str b] => strLt a b
  | _ => false
theorem x__law_is_name_ok (S : Sto) (d : D) {n : Nat} (h : pdB n d = true) : x__law_is_name S [d] = .ok (.bl (nameOk d)) S := by
  have hl := pdB_low h
  have hr : refsOf [d] = [] := by rw [pd_refs h]; rfl
  have ha : [d].all argL = true := by simp [pd_argL h]
  suffices e : ∃ S1, bodyM 2 b__law_is_name [] [d] = .ok (.bl (nameOk d)) S1 by
    obtain ⟨S1, e⟩ := e
    exact subK_ok e hr ha
  cases d with
  | str s =>
    have hz : s.length ≤ 16777216 := sizeLine_ge (by cases n <;> (simp [pdB] at h; exact h.2))
    refine ⟨[], ?_⟩
    by_cases h1 : 1 ≤ s.length
    · have a1 : (1 : Int) ≤ (s.length : Int) := by omega
      by_cases h2 : s.length ≤ 12
      · have a2 : (s.length : Int) ≤ 12 := by omega
        have e := lcM_map (S0 := []) (S := []) (env := [some (.str s), none]) (mi := seqI (varM 0)) (j := 1) (me := valM (cmpB inG (varM 1) (cM (.str "abcdefghijklmnopqrstuvwxyz")))) (ds := signs s) (fun d => .bl (sgn d)) rfl (fun d hd => by
          obtain ⟨c, _, rfl⟩ := List.mem_map.mp hd
          rfl) (by rw [signs, List.length_map]; exact hz)
        have e3 : ((signs s).map fun d => D.bl (sgn d)) = s.cps.toList.map fun c => D.bl (decide (c ∈ ("abcdefghijklmnopqrstuvwxyz" : Str).cps.toList)) := by
          rw [signs, List.map_map]; rfl
        rw [e3] at e
        have e4 : nameOk (.str s) = nameC s := by simp [nameOk, okName, h1, h2]
        simp [b__law_is_name, lenG, hz, leG, ordG, a1, a2]
        simp [e, allG_map, e4, nameC]
      · have a2 : ¬ (s.length : Int) ≤ 12 := by omega
        have e4 : nameOk (.str s) = false := by simp [nameOk, okName, h2]
        simp [b__law_is_name, lenG, hz, leG, ordG, a1, a2, e4]
    · have a1 : ¬ (1 : Int) ≤ (s.length : Int) := by omega
      have e4 : nameOk (.str s) = false := by simp [nameOk, okName, h1]
      simp [b__law_is_name, lenG, hz, leG, ordG, a1, e4]
  | _ => first | (cases n <;> simp [pdB] at h; done) | (refine ⟨[], ?_⟩; simp [b__law_is_name, nameOk])
theorem x_is_rising_strs (S : Sto) (ms : List Str) (hl : ms.length ≤ 1000000) : x_is_rising S [sD ms] = .ok (.bl (risB ms)) S := by
  refine subK_ok (S1 := []) (ds := [sD ms]) ?_ rfl (by simp [argL_sD])
  have h1 : cutD (ms.map D.str) (some 1) none = (ms.map D.str).tail := by
    cases ms with
    | nil => rfl
    | cons a r =>
      simp [cutD, HT.sIx]
      exact List.take_of_length_le (by simp)
  have zz : zipD (ms.map D.str) (ms.map D.str).tail = (ms.zip ms.tail).map fun p => .tup [.str p.1, .str p.2] := by
    rw [← List.map_tail]; exact zipD_strs ms ms.tail
  have e := lcM_pure (S0 := []) (S := []) (env := [some (sD ms), none, none]) (own := [1, 2]) (is := [1, 2]) (T := tupT (moreT nameT (moreT nameT noT))) (mt := tYesM) (me := valM (cmpB ltX (varM 1) (varM 2))) (mi := callI zipI (consM (varM 0) (consM (sliM sliG (varM 0) (partM (cM (.int 1))) noneM) nilM))) (ds := (ms.zip ms.tail).map fun p => .tup [.str p.1, .str p.2]) (fun _ => true) (fun d => .bl (lt2 d)) (by
      simp [-List.map_tail, sD, sliG, h1, zipI, zz]) (fun d hd => by
      obtain ⟨p, _, rfl⟩ := List.mem_map.mp hd
      exact ⟨[.str p.1, .str p.2], rfl, rfl, fun _ => rfl⟩) (by simp; omega)
  rw [List.filter_eq_self.mpr (fun _ _ => rfl), List.map_map] at e
  have e2 := allG_map [] (fun p : Str × Str => strLt p.1 p.2) (ms.zip ms.tail)
  have e3 : ((ms.zip ms.tail).map ((fun d => D.bl (lt2 d)) ∘ fun p : Str × Str => D.tup [.str p.1, .str p.2])) = (ms.zip ms.tail).map fun p => D.bl (strLt p.1 p.2) := rfl
  rw [e3] at e
  simp [b_is_rising, e, e2, risB]
theorem x_are_names_tup (S : Sto) (ds : List D) {n : Nat} (h : pdB n (.tup ds) = true) (hl : ds.length ≤ 1000000) (hq : ds.all nameOk = false) : x_are_names S [.tup ds] = .ok (.bl false) S := by
  refine subK_ok (S1 := []) (ds := [.tup ds]) ?_ rfl (by simp [pd_argL h])
  cases n with
  | zero => simp [pdB] at h
  | succ n =>
  simp only [pdB, List.all_eq_true] at h
  have e := lcM_map (S0 := []) (S := []) (env := [some (.tup ds), none]) (mi := seqI (varM 0)) (j := 1) (me := callM x_is_name (consM (varM 1) nilM)) (ds := ds) (fun d => .bl (nameOk d)) (by simp [walkO]) (fun d hd => by simp [x_is_name_ok [] d (h d hd)]) (by simp; omega)
  have e2 := allG_map [] nameOk ds
  rw [hq] at e2
  simp [b_are_names, e, e2]
theorem x_are_names_strs (S : Sto) (ms : List Str) (h : ∀ s ∈ ms, okName s = true) (hl : ms.length ≤ 1000000) : x_are_names S [sD ms] = .ok (.bl (risB ms)) S := by
  refine subK_ok (S1 := []) (ds := [sD ms]) ?_ rfl (by simp [argL_sD])
  have hp : ∀ d ∈ ms.map D.str, pdB 0 d = true := fun d hd => by
    obtain ⟨s, hs, rfl⟩ := List.mem_map.mp hd
    exact pd_lit (okName_lit (h s hs))
  have e := lcM_map (S0 := []) (S := []) (env := [some (sD ms), none]) (mi := seqI (varM 0)) (j := 1) (me := callM x_is_name (consM (varM 1) nilM)) (ds := ms.map D.str) (fun d => .bl (nameOk d)) (by simp [walkO, sD]) (fun d hd => by simp [x_is_name_ok [] d (hp d hd)]) (by simp; omega)
  have e2 := allG_map [] nameOk (ms.map D.str)
  have e3 : (ms.map D.str).all nameOk = true := by
    rw [List.all_eq_true]
    intro d hd
    obtain ⟨s, hs, rfl⟩ := List.mem_map.mp hd
    exact h s hs
  rw [e3] at e2
  simp only [List.map_map] at e e2
  have e4 := x_is_rising_strs [] ms hl
  have e5 : tyName [] (sD ms) = some "tuple" := rfl
  simp [b_are_names, e, e2, e4, e5]

/-- words -/
def wOk (ms : List Str) : Prop := (∀ s ∈ ms, asc (sg s) ∧ s.length ≤ 1000) ∧ ms.length ≤ 1000
theorem wOk.pd {ms : List Str} (h : wOk ms) (n : Nat) : ∀ d ∈ ms.map D.str, pdB n d = true := fun d hd => by
  obtain ⟨s, hs, rfl⟩ := List.mem_map.mp hd
  exact asc_pd (h.1 s hs).1 (h.1 s hs).2
def mkOk (ms : List Str) : Bool := ms.all okName && risB ms
theorem names_map (ms : List Str) : (ms.map D.str).all nameOk = ms.all okName := by rw [List.all_map]; rfl
theorem are_names_ok (S : Sto) {ms : List Str} (h : wOk ms) : x_are_names S [sD ms] = .ok (.bl (mkOk ms)) S := by
  unfold mkOk
  cases q : ms.all okName with
  | false => rw [Bool.false_and]; exact x_are_names_tup S (ms.map D.str) (n := 1) (by simp only [pdB, List.all_eq_true]; exact h.pd 0) (by have := h.2; simp; omega) (by rw [names_map]; exact q)
  | true => rw [Bool.true_and]; exact x_are_names_strs S ms (List.all_eq_true.mp q) (by have := h.2; omega)
theorem law_are_marks_ok (S : Sto) {ms : List Str} (h : wOk ms) : x__law_are_marks S [sD ms] = .ok (.bl (mkOk ms)) S := by
  have hl := h.2
  refine subK_ok (ok := argL) (S1 := []) (ds := [sD ms]) ?_ rfl (by simp [argL_sD]) rfl
  have e := lcM_map (S0 := []) (S := []) (env := [some (sD ms), none, none]) (mi := seqI (varM 0)) (j := 1) (me := callM x__law_is_name (consM (varM 1) nilM)) (ds := ms.map D.str) (fun d => .bl (nameOk d)) (by simp [walkO, sD]) (fun d hd => by simp [x__law_is_name_ok [] d (h.pd 0 d hd)]) (by simp; omega)
  have e2 := allG_map [] nameOk (ms.map D.str)
  rw [names_map] at e2
  have h1 : cutD (ms.map D.str) (some 1) none = (ms.map D.str).tail := by
    cases ms with
    | nil => rfl
    | cons a r =>
      simp [cutD, HT.sIx]
      exact List.take_of_length_le (by simp)
  have zz : zipD (ms.map D.str) (ms.map D.str).tail = (ms.zip ms.tail).map fun p => .tup [.str p.1, .str p.2] := by
    rw [← List.map_tail]; exact zipD_strs ms ms.tail
  have f := lcM_pure (S0 := []) (S := []) (env := [some (sD ms), none, none]) (own := [1, 2]) (is := [1, 2]) (T := tupT (moreT nameT (moreT nameT noT))) (mt := tYesM) (me := valM (cmpB ltG (varM 1) (varM 2))) (mi := callI zipI (consM (varM 0) (consM (sliM sliG (varM 0) (partM (cM (.int 1))) noneM) nilM))) (ds := (ms.zip ms.tail).map fun p => .tup [.str p.1, .str p.2]) (fun _ => true) (fun d => .bl (lt2 d)) (by
      simp [-List.map_tail, sD, sliG, h1, zipI, zz]) (fun d hd => by
      obtain ⟨p, _, rfl⟩ := List.mem_map.mp hd
      exact ⟨[.str p.1, .str p.2], rfl, rfl, fun _ => rfl⟩) (by simp; omega)
  rw [List.filter_eq_self.mpr (fun _ _ => rfl), List.map_map] at f
  have f2 := allG_map [] (fun p : Str × Str => strLt p.1 p.2) (ms.zip ms.tail)
  have f3 : ((ms.zip ms.tail).map ((fun d => D.bl (lt2 d)) ∘ fun p : Str × Str => D.tup [.str p.1, .str p.2])) = (ms.zip ms.tail).map fun p => D.bl (strLt p.1 p.2) := rfl
  rw [f3] at f
  have e5 : tyName [] (sD ms) = some "tuple" := rfl
  have hb : bodyM 3 b__law_are_marks [] [sD ms] = .ok (.bl (mkOk ms)) [] := ?_
  · exact hb
  unfold mkOk
  simp only [List.map_map] at e e2
  cases q : ms.all okName with
  | false => rw [q] at e2; simp [b__law_are_marks, e, e2, e5]
  | true => rw [q] at e2; simp [b__law_are_marks, e, e2, e5, f, f2, risB]
theorem ris_pair : ∀ {ms : List Str}, risB ms = true → ms.Pairwise ltS
  | [], _ => by simp
  | [a], _ => by simp
  | a :: b :: r, h => by
    simp only [risB, List.tail_cons, List.zip_cons_cons, List.all_cons, Bool.and_eq_true] at h
    have ih := ris_pair (ms := b :: r) (by simpa [risB] using h.2)
    have hab : ltS a b := of_decide_eq_true h.1
    refine List.pairwise_cons.mpr ⟨fun z hz => ?_, ih⟩
    rcases List.mem_cons.mp hz with e | e
    · rw [e]; exact hab
    · exact ltS_trans hab ((List.pairwise_cons.mp ih).1 z e)
theorem usort_self {ms : List Str} (h : risB ms = true) : usort ms = ms := sorted_ext (usort_sorted ms) (ris_pair h) fun k => mem_usort
theorem ris_usort (ms : List Str) : decide (ms = usort ms) = risB ms := by
  cases q : risB ms with
  | true => exact decide_eq_true (usort_self q).symm
  | false =>
    refine decide_eq_false fun e => ?_
    have := ris_of (usort_sorted ms)
    rw [← e, q] at this
    exact nomatch this
theorem strs_inj {a b : List Str} (h : a.map D.str = b.map D.str) : a = b := by
  induction a generalizing b with
  | nil => cases b with
    | nil => rfl
    | cons y b => simp at h
  | cons x a ih => cases b with
    | nil => simp at h
    | cons y b =>
      simp only [List.map_cons, List.cons.injEq, D.str.injEq] at h
      rw [h.1, ih h.2]
theorem ne_strs (S : Sto) {a b : List Str} (ha : ∀ d ∈ a.map D.str, pdB 63 d = true) (hb : ∀ d ∈ b.map D.str, pdB 63 d = true) : neG S (.lst (a.map D.str)) (.lst (b.map D.str)) = .ok (!decide (a = b)) S := by
  have p1 : pdB 64 (.lst (a.map D.str)) = true := by simp only [pdB, List.all_eq_true]; exact ha
  have p2 : pdB 64 (.lst (b.map D.str)) = true := by simp only [pdB, List.all_eq_true]; exact hb
  rw [neG_pd p1 p2]
  have nb : ∀ l : List Str, nbB 1 (.lst (l.map D.str)) = true := fun l => by
    simp only [nbB, List.all_eq_true]
    intro d hd
    obtain ⟨s, _, rfl⟩ := List.mem_map.mp hd
    rfl
  have := beqD_iff (nb a) (nb b) p1 p2
  congr 2
  by_cases e : a = b
  · rw [decide_eq_true e]; exact this.mpr (by rw [e])
  · rw [decide_eq_false e]
    cases q : beqD (.lst (a.map D.str)) (.lst (b.map D.str)) with
    | false => rfl
    | true => exact absurd (strs_inj (by simpa using this.mp q)) e
theorem told_marks_ok (S : Sto) {ms : List Str} (h : wOk ms) (h64 : ms.length < 64) : x_told_marks S [.lst (ms.map D.str)] = .ok (if mkOk ms = true then sD ms else .non) S := by
  have hl := h.2
  refine subK_ok (ok := argL) (S1 := []) (ds := [.lst (ms.map D.str)]) ?_ rfl (by simp [argL, lowD, lowL_strs]) (by split; exact low_sD ms; rfl)
  have e := lcM_map (S0 := []) (S := []) (env := [some (.lst (ms.map D.str)), none]) (mi := seqI (varM 0)) (j := 1) (me := callM x_is_name (consM (varM 1) nilM)) (ds := ms.map D.str) (fun d => .bl (nameOk d)) (by simp [walkO]) (fun d hd => by simp [x_is_name_ok [] d (h.pd 0 d hd)]) (by simp; omega)
  have e2 := allG_map [] nameOk (ms.map D.str)
  rw [names_map] at e2
  have e3 : ∀ u, sosM (varM 0) [some (.lst (ms.map D.str)), u] [] = .ok ((usort ms).map D.str) [] := fun u => by
    have : ms.length < 4000 ∧ ms.length < 64 := by omega
    unfold sosM
    simp only [l_varM, List.getElem?_cons_zero, R.bind_ok, asL_lst, strsOf_map, if_pos this]
  have e4 : neG [] (.lst (ms.map D.str)) (.lst ((usort ms).map D.str)) = .ok (!risB ms) [] := by
    rw [ne_strs [] (h.pd 63) (fun d hd => by
      obtain ⟨s, hs, rfl⟩ := List.mem_map.mp hd
      exact h.pd 63 _ (List.mem_map.mpr ⟨s, mem_usort.mp hs, rfl⟩)), ris_usort]
  unfold mkOk
  have ef := frz_eq e
  cases q : ms.all okName with
  | false =>
    rw [q] at e2
    refine body_rt (env := [some (.lst (ms.map D.str)), none]) rfl ?_
    unfold b_told_marks
    refine seq_rt ?_
    simp only [l_ifS, l_orB, l_notB, l_tstM, l_callM, l_consM, l_nilM, ef, R.bind_ok, e2, l_truB, truth, Bool.not_false, if_true, l_R_st, l_retM, l_cM, Bool.false_and, Bool.false_eq_true, if_false]
  | true =>
    rw [q] at e2
    refine body_rt (env := [some (.lst (ms.map D.str)), none]) rfl ?_
    unfold b_told_marks
    have e5 := frz_eq (e3 none)
    cases r : risB ms with
    | false =>
      rw [r] at e4
      refine seq_rt ?_
      simp only [l_ifS, l_orB, l_notB, l_tstM, l_callM, l_consM, l_nilM, ef, R.bind_ok, e2, l_truB, truth, Bool.not_true, if_true, l_R_st, l_retM, l_cM, Bool.true_and, Bool.false_eq_true, if_false, l_cmpB, l_frzM, l_varM, List.getElem?_cons_zero, lstC_lst, e3 none, e4, Bool.not_false]
    | true =>
      rw [r] at e4
      rw [seq_nx (env1 := [some (.lst (ms.map D.str)), none]) (S1 := []) (by
        simp only [l_ifS, l_orB, l_notB, l_tstM, l_callM, l_consM, l_nilM, ef, R.bind_ok, e2, l_truB, truth, Bool.not_true, if_true, l_R_st, l_retM, l_cM, Bool.true_and, Bool.false_eq_true, if_false, l_cmpB, l_frzM, l_varM, List.getElem?_cons_zero, lstC_lst, e3 none, e4, Bool.not_false, l_passM])]
      simp [sD]
end K25
end

section
set_option Elab.async false
set_option linter.all false
set_option maxRecDepth 100000
set_option maxHeartbeats 4000000
/-! Plain law of k25, part 5: a row. -/
namespace K25
open PySem PySem.Spec DL
theorem subK_two {ok : D → Bool} {f : Fn} {S S1 : Sto} {ds p p' q q' : List D} {d : D} {n m : Nat} (hn : S[n]? = some (.lst p)) (hm : S[m]? = some (.lst q)) (hnm : n ≠ m) (hp : lowL 0 p = true) (hq : lowL 0 q = true)
    (h2 : f [.lst p, .lst q] (.ref 0 :: .ref 1 :: ds) = .ok d S1) (h3 : S1[0]? = some (.lst p')) (h4 : S1[1]? = some (.lst q')) (hp' : lowL 0 p' = true) (hq' : lowL 0 q' = true)
    (hd : lowD 0 d = true) (h0 : refsOf ds = []) (h1 : ds.all ok = true) (hk : ∀ n, ok (.ref n) = true) : subK ok f S (.ref n :: .ref m :: ds) = .ok d ((S.set n (.lst p')).set m (.lst q')) := by
  have er : refsOf (.ref n :: .ref m :: ds) = [n, m] := by simp [refsOf, h0, hnm]
  have em : (D.ref n :: D.ref m :: ds).map (renum [n, m]) = .ref 0 :: .ref 1 :: ds := by
    rw [List.map_cons, List.map_cons, renum_id h0]
    have e : (n == m) = false := by simpa using hnm
    simp [renum, List.findIdx_cons, e]
  have et : S1.take 2 = [.lst p', .lst q'] := by
    cases S1 with
    | nil => cases h3
    | cons o r =>
      cases r with
      | nil => cases h4
      | cons o2 r =>
        simp only [List.getElem?_cons_zero, List.getElem?_cons_succ, Option.some.injEq] at h3 h4
        subst h3; subst h4; rfl
  have e1 : (O.lst p :: O.lst q :: ([] : Sto)).all (lowO 0) = true := by simp [lowO, hp, hq]
  have e2 : ([O.lst p', O.lst q'] : Sto).all (lowO 0) = true := by simp [lowO, hp', hq']
  have e3 : (D.ref n :: D.ref m :: ds).all ok = true := by simp only [List.all_cons, hk, h1, Bool.and_self]
  have e4 : frzD S1 2 9 d = some d := frz_low (low_mono (Nat.zero_le 2) d hd)
  unfold subK
  rw [er, em]
  simp only [getO, hn, hm, e1, e3, h2, Bool.and_self, if_true, List.length_cons, List.length_nil, Nat.zero_add, et, e2, e4, hd, putO]
abbrev Ed : Type := Nat × Str × Nat
def eD (e : Ed) : D := .tup [.int (e.1 : Int), .str e.2.1, .int (e.2.2 : Int)]
def keyE (e : Ed) : List L2.Key := [.inl (e.1 : Int), .inr e.2.1, .inl (e.2.2 : Int)]
theorem tk_eD (e : Ed) : tkOf (eD e) = some (keyE e) := rfl
def edgeW (ws : List Str) : Option Ed := match ws with
  | [_, w1, w2, w3] => if okName w2 = true then (match numW w1, numW w3 with
    | some a, some b => some (a, w2, b)
    | _, _ => none) else none
  | _ => none
def edgeD (ws : List Str) : D := match edgeW ws with
  | some e => eD e
  | none => .non
theorem four {ws : List Str} (h : ws.length = 4) : ∃ a b c d, ws = [a, b, c, d] := by
  match ws, h with
  | [a, b, c, d], _ => exact ⟨a, b, c, d, rfl⟩
theorem idx4 (S : Sto) (a b c d : D) : idxG S (.lst [a, b, c, d]) (.int 0) = .ok a S ∧ idxG S (.lst [a, b, c, d]) (.int 1) = .ok b S ∧ idxG S (.lst [a, b, c, d]) (.int 2) = .ok c S ∧ idxG S (.lst [a, b, c, d]) (.int 3) = .ok d S ∧ idxG S (.lst [a, b, c, d]) (.int (-1)) = .ok d S := ⟨rfl, rfl, rfl, rfl, rfl⟩
theorem low_edgeD (ws : List Str) : lowD 0 (edgeD ws) = true := by unfold edgeD; split <;> rfl
theorem strs_argL (l : List Str) : argL (.lst (l.map D.str)) = true := argL_sD l
theorem numD_cases (w : Str) : (∃ n, numW w = some n ∧ numD w = .int n) ∨ (numW w = none ∧ numD w = .non) := by
  unfold numD
  cases h : numW w with
  | none => exact .inr ⟨rfl, rfl⟩
  | some n => exact .inl ⟨n, rfl, rfl⟩
theorem told_edge_ok (S : Sto) {ws : List Str} (h : wOk ws) : x_told_edge S [.lst (ws.map D.str)] = .ok (edgeD ws) S := by
  refine subK_ok (ok := argL) (S1 := []) (ds := [.lst (ws.map D.str)]) ?_ rfl (by simp [strs_argL]) (low_edgeD ws)
  by_cases h4 : ws.length = 4
  · obtain ⟨a, b, c, d, rfl⟩ := four h4
    have hw := h.1
    have e1 : x_is_name [] [.str c] = .ok (.bl (okName c)) [] := x_is_name_ok [] (.str c) (n := 0) (asc_pd (hw c (by simp)).1 (hw c (by simp)).2)
    have e2 := told_number_ok [] b (hw b (by simp)).2
    have e3 := told_number_ok [] d (hw d (by simp)).2
    obtain ⟨i0, i1, i2, i3, i4⟩ := idx4 [] (.str a) (.str b) (.str c) (.str d)
    cases q : okName c with
    | false =>
      rw [q] at e1
      have en : edgeD [a, b, c, d] = .non := by simp [edgeD, edgeW, q]
      rw [en]
      simp [b_told_edge, i2, e1]
    | true =>
      rw [q] at e1
      have hn : DL.negM (cM (.int 1)) = fun env S => .ok (.int (-1)) S := rfl
      rcases numD_cases b with ⟨x, x1, x2⟩ | ⟨x1, x2⟩ <;> rcases numD_cases d with ⟨y, y1, y2⟩ | ⟨y1, y2⟩ <;> rw [x2] at e2 <;> rw [y2] at e3
      · have en : edgeD [a, b, c, d] = eD (x, c, y) := by simp [edgeD, edgeW, q, x1, y1]
        rw [en]
        simp [b_told_edge, i1, i2, hn, i4, e1, e2, e3, nisG, isG, eD]
      all_goals
        have en : edgeD [a, b, c, d] = .non := by simp [edgeD, edgeW, q, x1, y1]
        rw [en]
        simp [b_told_edge, i1, i2, hn, i4, e1, e2, e3, nisG, isG]
  · have en : edgeD ws = .non := by
      have : edgeW ws = none := by
        unfold edgeW
        split
        · simp at h4
        · rfl
      unfold edgeD; rw [this]
    rw [en]
    have h5 : ¬ (ws.length : Int) = 4 := by omega
    simp [b_told_edge, h5]
end K25
end

section
set_option Elab.async false
set_option linter.all false
set_option maxRecDepth 100000
set_option maxHeartbeats 4000000
/-! Plain law of k25, part 6: what a row does. -/
namespace K25
open PySem PySem.Spec DL
/-- behind the last edge -/
def upTo (es : List Ed) (e : Ed) : Bool := match es.getLast? with
  | none => true
  | some l => tlt (keyE l) (keyE e)
abbrev Stt : Type := List (List Str) × List Ed
def rowW (s : Stt) (ws : List Str) : Option Stt := match ws with
  | [] => none
  | w0 :: r =>
    if w0 = "node" ∧ s.2 = [] then (if mkOk r = true ∧ s.1.length ≠ 60 then some (s.1 ++ [r], s.2) else none)
    else if w0 = "edge" then (match edgeW (w0 :: r) with
      | some e => if (e.1 < s.1.length ∧ e.2.2 < s.1.length) ∧ upTo s.2 e = true then some (s.1, s.2 ++ [e]) else none
      | none => none)
    else none
def mL (ms : List (List Str)) : List D := ms.map sD
def eL (es : List Ed) : List D := es.map eD
structure Fit (s : Stt) : Prop where
  m : ∀ x ∈ s.1, mkOk x = true ∧ wOk x ∧ x.length < 64
  e : ∀ x ∈ s.2, okName x.2.1 = true ∧ x.1 < 60 ∧ x.2.2 < 60
  ml : s.1.length ≤ 60
theorem pd_sD {x : List Str} (h : wOk x) (n : Nat) : pdB (n + 1) (sD x) = true := by
  simp only [sD, pdB, List.all_eq_true]; exact h.pd n
theorem pd_eD {e : Ed} (h : okName e.2.1 = true) (n : Nat) : pdB (n + 1) (eD e) = true := by
  have := pd_lit (n := n) (okName_lit h)
  simp [eD, pdB, this]
theorem low_mL (ms : List (List Str)) : lowL 0 (mL ms) = true := lowL_all.mpr fun d hd => by
  obtain ⟨x, _, rfl⟩ := List.mem_map.mp hd
  exact low_sD x
theorem low_eL (es : List Ed) : lowL 0 (eL es) = true := lowL_all.mpr fun d hd => by
  obtain ⟨x, _, rfl⟩ := List.mem_map.mp hd
  rfl
theorem Fit.pdm {s : Stt} (h : Fit s) : ∀ d ∈ mL s.1, pdB 63 d = true := fun d hd => by
  obtain ⟨x, hx, rfl⟩ := List.mem_map.mp hd
  exact pd_sD (h.m x hx).2.1 62
theorem Fit.pde {s : Stt} (h : Fit s) : ∀ d ∈ eL s.2, pdB 63 d = true := fun d hd => by
  obtain ⟨x, hx, rfl⟩ := List.mem_map.mp hd
  exact pd_eD (h.e x hx).1 62
theorem eq_nil {S : Sto} {n : Nat} {ds : List D} (hn : S[n]? = some (.lst ds)) (h : ∀ d ∈ ds, pdB 63 d = true) : eqG S (.ref n) (.lst []) = .ok ds.isEmpty S := by
  have e : pdB 64 (.lst ds) = true := by simpa [pdB] using h
  rw [eqG_ref hn, eqG_pd e rfl, beqD_nil e]
theorem isEmpty_eL (es : List Ed) : (eL es).isEmpty = decide (es = []) := by cases es <;> simp [eL]
theorem isEmpty_mL (ms : List (List Str)) : (mL ms).isEmpty = decide (ms = []) := by cases ms <;> simp [mL]
theorem len_ref {S : Sto} {n : Nat} {ds : List D} (hn : S[n]? = some (.lst ds)) : lenG S [.ref n] = .ok (.int ds.length) S := by
  unfold lenG; simp only [asS_ref hn]
theorem idx_last {S : Sto} {n : Nat} {ds : List D} {d : D} (hn : S[n]? = some (.lst (ds ++ [d]))) : idxG S (.ref n) (.int (-1)) = .ok d S := by
  have e1 : L2.ixN (ds ++ [d]).length (-1) = some ds.length := by
    have h2 : -((ds ++ [d]).length : Int) ≤ -1 := by simp; omega
    unfold L2.ixN
    rw [if_neg (by decide), if_pos h2]
    congr 1
    simp
    omega
  have e2 : L2.atI (ds ++ [d]) (-1) = some d := by
    unfold L2.atI
    rw [e1]; simp
  simp only [idxG, asS_ref hn, e2]
theorem cut_split {S : Sto} {line : Str} (hl : line.length ≤ 1000) {c : Nat} (hc : c < 256) : splitG S line (.str (mkS [c])) = .ok (((cutW c (sg line)).map mkS).map D.str) S := by
  have h1 : ((mkS [c]).length == 0) = false ∧ line.length + 2 ≤ sizeLine := ⟨by simp, by simp; omega⟩
  simp only [splitG, if_pos h1, split_cut line hc]
theorem blank_lit : (" " : Str) = mkS [32] := by rfl
theorem nl_lit : ("\n" : Str) = mkS [10] := by rfl
/-- the words of a line -/
def wds (line : List Nat) : List Str := (cutW 32 line).map mkS
theorem wds_ne (line : List Nat) : wds line ≠ [] := by
  unfold wds
  intro h
  exact cutW_ne 32 line (List.map_eq_nil_iff.mp h)
theorem wds_ok {line : List Nat} (h : asc line) (hl : line.length ≤ 60) : wOk (wds line) ∧ (wds line).length ≤ 61 := by
  obtain ⟨h1, h2⟩ := cut_len 32 line
  refine ⟨⟨fun s hs => ?_, by simp [wds]; omega⟩, by simp [wds]; omega⟩
  obtain ⟨p, hp, rfl⟩ := List.mem_map.mp hs
  obtain ⟨q1, q2, q3⟩ := h2 p hp
  exact ⟨fun c hc => h c (q2 c hc), by rw [len_mk]; omega⟩
theorem wOk.tail {w : Str} {r : List Str} (h : wOk (w :: r)) : wOk r := ⟨fun s hs => h.1 s (List.mem_cons_of_mem _ hs), by have := h.2; simp at this; omega⟩
theorem word_eq (S : Sto) {w k : Str} (h : asc (sg w) ∧ w.length ≤ 1000) (hk : litOk k = true) : eqG S (.str w) (.str k) = .ok (decide (w = k)) S := by
  rw [eq_str (asc_pd h.1 h.2) (pd_lit hk)]
  congr 1
theorem both_nodes (S : Sto) (env : En) (e : Ed) (k : Nat) {n : Nat} {ds : List D} (h0 : env[0]? = some (some (.ref n))) (hn : S[n]? = some (.lst ds)) (h5 : env[5]? = some (some (eD e))) (hlen : 6 < env.length) :
    lcM (seqI (tupM (consM (op2M idxG (varM 5) (cM (.int 0))) (consM (op2M idxG (varM 5) (cM (.int 2))) nilM)))) [6] [6] nameT tYesM (valM (cmpB ltX (varM 6) (callM lenG (consM (varM 0) nilM)))) env S = .ok [.bl (decide (e.1 < ds.length)), .bl (decide (e.2.2 < ds.length))] S := by
  have f := lcM_map (S0 := S) (S := S) (env := env) (mi := seqI (tupM (consM (op2M idxG (varM 5) (cM (.int 0))) (consM (op2M idxG (varM 5) (cM (.int 2))) nilM)))) (j := 6) (me := valM (cmpB ltX (varM 6) (callM lenG (consM (varM 0) nilM)))) (ds := [.int (e.1 : Int), .int (e.2.2 : Int)])
    (fun d => match d with | .int i => .bl (decide (i < (ds.length : Int))) | _ => .non) (by simp [h5, eD, walkO]) (fun d hd => by
      have g0 : ((env.set 6 none).set 6 (some d))[0]? = some (some (.ref n)) := by simp [h0]
      have g6 : ((env.set 6 none).set 6 (some d))[6]? = some (some d) := by simp [hlen]
      simp only [List.mem_cons, List.not_mem_nil, or_false] at hd
      rcases hd with rfl | rfl <;> simp only [l_valM, l_cmpB, l_varM, g0, g6, R.bind_ok, l_callM, l_consM, l_nilM, len_ref hn, ordX, tkOf, ordG]) (by simp)
  rw [f]
  simp
theorem allG_two (S : Sto) (a b : Bool) : allG S [.lst [.bl a, .bl b]] = .ok (.bl (a && b)) S := by
  have := allG_map S id [a, b]
  simpa using this
theorem low_append {a b : List D} (h : lowL 0 a = true) (g : lowL 0 b = true) : lowL 0 (a ++ b) = true := lowL_all.mpr fun d hd => by
  rcases List.mem_append.mp hd with z | z
  · exact lowL_all.mp h d z
  · exact lowL_all.mp g d z
/-- the run of a row, the lists at 0 and 1 -/
theorem row_run (s : Stt) (F : Fit s) (hE : s.2.length < 400) (line : Str) (ha : asc (sg line)) (hl : line.length ≤ 60) :
    bodyM 7 b_told_row [.lst (mL s.1), .lst (eL s.2)] [.ref 0, .ref 1, .str line] = match rowW s (wds (sg line)) with
      | some t => .ok (.bl true) [.lst (mL t.1), .lst (eL t.2)]
      | none => .ok (.bl false) [.lst (mL s.1), .lst (eL s.2)] := by
  obtain ⟨W, W61⟩ := wds_ok ha (by rw [← len_sg]; exact hl)
  obtain ⟨w0, r, hw⟩ : ∃ w0 r, wds (sg line) = w0 :: r := by
    cases h : wds (sg line) with
    | nil => exact absurd h (wds_ne _)
    | cons a b => exact ⟨a, b, rfl⟩
  have sp : ∀ S, splitG S line (.str " ") = .ok ((wds (sg line)).map D.str) S := fun S => by rw [blank_lit]; exact cut_split (by omega) (by decide)
  rw [hw] at W W61
  simp only [hw] at sp
  rw [hw]
  have w0ok := W.1 w0 (by simp)
  generalize hS : ([.lst (mL s.1), .lst (eL s.2)] : Sto) = S
  have S0 : S[0]? = some (.lst (mL s.1)) := by rw [← hS]; rfl
  have S1 : S[1]? = some (.lst (eL s.2)) := by rw [← hS]; rfl
  have e1 := word_eq S (k := "node") w0ok (by decide +kernel)
  have e2 := word_eq S (k := "edge") w0ok (by decide +kernel)
  have e3 : eqG S (.ref 1) (.lst []) = .ok (decide (s.2 = [])) S := by rw [eq_nil S1 F.pde, isEmpty_eL]
  have e4 : neG S (.ref 1) (.lst []) = .ok (!decide (s.2 = [])) S := by rw [neG_nil S1 F.pde, isEmpty_eL]
  have i0 : idxG S (.lst ((w0 :: r).map D.str)) (.int 0) = .ok (.str w0) S := by
    have := idx_lst S ((w0 :: r).map D.str) 0 (by simp)
    simpa using this
  have sl : sliG S (.lst ((w0 :: r).map D.str)) (some 1) none = .ok (.lst (r.map D.str)) S := by
    have : cutD ((w0 :: r).map D.str) (some 1) none = r.map D.str := by
      simp [cutD, HT.sIx]
      exact List.take_of_length_le (by simp)
    simp only [sliG, asL_lst, this]
  have lm : lenG S [.ref 0] = .ok (.int s.1.length) S := by rw [len_ref S0]; simp [mL]
  have le : lenG S [.ref 1] = .ok (.int s.2.length) S := by rw [len_ref S1]; simp [eL]
  have tm := told_marks_ok S W.tail (by simp at W61; omega)
  have te := told_edge_ok S W
  have hrec0 : recv S (.ref 0) = some 0 := recv_ok S0
  have hrec1 : recv S (.ref 1) = some 1 := recv_ok S1
  have hb : b_told_row = seqM (setM 3 (frzM (sm1F splitG (varM 2) (cM (.str " ")))))
      (seqM (ifS (andB (cmpB eqG (op2M idxG (varM 3) (cM (.int 0))) (cM (.str "node"))) (cmpB eqG (varM 1) (frzM (lstM nilM)))) (seqM (setM 4 (callM x_told_marks (consM (sliM sliG (varM 3) (partM (cM (.int 1))) noneM) nilM)))
        (seqM (ifS (orB (cmpB isG (varM 4) (cM .non)) (cmpB eqG (callM lenG (consM (varM 0) nilM)) (cM (.int 60)))) (retM (cM (.bl false))) passM) (seqM (expM (appM (varM 0) (varM 4))) (retM (cM (.bl true)))))) passM)
      (seqM (setM 5 (ifM (cmpB eqG (op2M idxG (varM 3) (cM (.int 0))) (cM (.str "edge"))) (callM x_told_edge (consM (varM 3) nilM)) (cM .non)))
      (seqM (ifS (orB (cmpB isG (varM 5) (cM .non)) (notB (tstM (callM allG (consM (frzM (lcM (seqI (tupM (consM (op2M idxG (varM 5) (cM (.int 0))) (consM (op2M idxG (varM 5) (cM (.int 2))) nilM)))) [6] [6] nameT tYesM (valM (cmpB ltX (varM 6) (callM lenG (consM (varM 0) nilM)))))) nilM))))) (retM (cM (.bl false))) passM)
      (seqM (ifS (orB (andB (cmpB neG (varM 1) (frzM (lstM nilM))) (cmpB leX (varM 5) (op2M idxG (varM 1) (DL.negM (cM (.int 1)))))) (cmpB eqG (callM lenG (consM (varM 1) nilM)) (cM (.int 400)))) (retM (cM (.bl false))) passM)
      (seqM (expM (appM (varM 1) (varM 5))) (retM (cM (.bl true)))))))) := rfl
  have hneg : DL.negM (cM (.int 1)) = fun env S => .ok (.int (-1)) S := rfl
  have h60 : s.1.length < sizeLine := by have := F.ml; simp; omega
  have h400 : s.2.length < sizeLine := by simp; omega
  have fin : ∀ {d : D} {S2 : Sto}, b_told_row [some (.ref 0), some (.ref 1), some (.str line), none, none, none, none] S = .rt d S2 → bodyM 7 b_told_row S [.ref 0, .ref 1, .str line] = .ok d S2 := fun h => body_rt rfl h
  have step1 : ∀ k, seqM (setM 3 (frzM (sm1F splitG (varM 2) (cM (.str " "))))) k [some (.ref 0), some (.ref 1), some (.str line), none, none, none, none] S = k [some (.ref 0), some (.ref 1), some (.str line), some (.lst ((w0 :: r).map D.str)), none, none, none] S := fun k => by
    refine seq_nx ?_
    simp only [l_setM, l_frzM, sm1F, l_varM, List.getElem?_cons_succ, List.getElem?_cons_zero, R.bind_ok, l_cM, sp, l_R_st, List.set_cons_succ, List.set_cons_zero]
  by_cases hA : w0 = "node" ∧ s.2 = []
  · -- a node
    have g1 : decide (w0 = "node") = true := decide_eq_true hA.1
    have g2 : decide (s.2 = []) = true := decide_eq_true hA.2
    by_cases hB : mkOk r = true ∧ s.1.length ≠ 60
    · have hr : rowW s (w0 :: r) = some (s.1 ++ [r], s.2) := by simp only [rowW]; rw [if_pos hA, if_pos hB]
      rw [hr]
      have h6 : ¬ (s.1.length : Int) = 60 := by have := hB.2; omega
      rw [if_pos hB.1] at tm
      have ap : app1 S 0 (sD r) = .ok .non [.lst (mL (s.1 ++ [r])), .lst (eL s.2)] := by
        rw [app_ok S0 (by simpa [mL] using h60), ← hS]; simp [mL]
      refine fin ?_
      rw [hb, step1]
      refine seq_rt ?_
      simp only [List.map_cons] at i0 sl
      simp [i0, e1, g1, e3, g2, sl, tm, lm, h6, isG, sD, hrec0]
      simp only [sD] at ap
      simp [ap]
    · have hr : rowW s (w0 :: r) = none := by simp only [rowW]; rw [if_pos hA, if_neg hB]
      rw [hr]
      refine fin ?_
      rw [hb, step1]
      refine seq_rt ?_
      simp only [List.map_cons] at i0 sl
      cases q : mkOk r with
      | false =>
        rw [q, if_neg Bool.false_ne_true] at tm
        simp [i0, e1, g1, e3, g2, sl, tm, isG]
      | true =>
        rw [q, if_pos rfl] at tm
        have h6 : (s.1.length : Int) = 60 := by
          have := F.ml
          have h7 : s.1.length = 60 := Classical.byContradiction fun z => hB ⟨q, z⟩
          omega
        simp [i0, e1, g1, e3, g2, sl, tm, isG, sD, lm, h6]
  · have step2 : ∀ a k, seqM (ifS (andB (cmpB eqG (op2M idxG (varM 3) (cM (.int 0))) (cM (.str "node"))) (cmpB eqG (varM 1) (frzM (lstM nilM)))) a passM) k [some (.ref 0), some (.ref 1), some (.str line), some (.lst ((w0 :: r).map D.str)), none, none, none] S = k [some (.ref 0), some (.ref 1), some (.str line), some (.lst ((w0 :: r).map D.str)), none, none, none] S := fun a k => by
      refine seq_nx ?_
      simp only [List.map_cons] at i0
      by_cases g : w0 = "node"
      · have g2 : decide (s.2 = []) = false := decide_eq_false fun z => hA ⟨g, z⟩
        have g1 : decide (w0 = "node") = true := decide_eq_true g
        simp [i0, e1, g1, e3, g2]
      · have g1 : decide (w0 = "node") = false := decide_eq_false g
        simp [i0, e1, g1]
    by_cases hC : w0 = "edge"
    · have hC1 : decide (w0 = "edge") = true := decide_eq_true hC
      cases hE2 : edgeW (w0 :: r) with
      | none =>
        have hr : rowW s (w0 :: r) = none := by simp only [rowW]; rw [if_neg hA, if_pos hC, hE2]
        rw [hr]
        have hd : edgeD (w0 :: r) = .non := by unfold edgeD; rw [hE2]
        rw [hd] at te
        refine fin ?_
        rw [hb, step1, step2]
        simp only [List.map_cons] at i0 te
        rw [seq_nx (env1 := [some (.ref 0), some (.ref 1), some (.str line), some (.lst (.str w0 :: r.map D.str)), none, some .non, none]) (S1 := S) (by simp [i0, e2, hC1, te])]
        exact seq_rt (by simp [isG])
      | some e =>
        have hd : edgeD (w0 :: r) = eD e := by unfold edgeD; rw [hE2]
        rw [hd] at te
        have bn := both_nodes S [some (.ref 0), some (.ref 1), some (.str line), some (.lst ((w0 :: r).map D.str)), none, some (eD e), none] e 0 rfl S0 rfl (by simp)
        have bn2 := frz_eq bn
        have lml : (mL s.1).length = s.1.length := by simp [mL]
        rw [lml] at bn2
        have nn : isG S (eD e) .non = .ok false S := rfl
        refine (show _ = _ from ?_)
        have pre : ∀ {d : D} {S2 : Sto}, (seqM (ifS (orB (cmpB isG (varM 5) (cM .non)) (notB (tstM (callM allG (consM (frzM (lcM (seqI (tupM (consM (op2M idxG (varM 5) (cM (.int 0))) (consM (op2M idxG (varM 5) (cM (.int 2))) nilM)))) [6] [6] nameT tYesM (valM (cmpB ltX (varM 6) (callM lenG (consM (varM 0) nilM)))))) nilM))))) (retM (cM (.bl false))) passM)
            (seqM (ifS (orB (andB (cmpB neG (varM 1) (frzM (lstM nilM))) (cmpB leX (varM 5) (op2M idxG (varM 1) (DL.negM (cM (.int 1)))))) (cmpB eqG (callM lenG (consM (varM 1) nilM)) (cM (.int 400)))) (retM (cM (.bl false))) passM)
            (seqM (expM (appM (varM 1) (varM 5))) (retM (cM (.bl true)))))) [some (.ref 0), some (.ref 1), some (.str line), some (.lst ((w0 :: r).map D.str)), none, some (eD e), none] S = .rt d S2 → bodyM 7 b_told_row S [.ref 0, .ref 1, .str line] = .ok d S2 := fun h => by
          refine fin ?_
          rw [hb, step1, step2]
          simp only [List.map_cons] at i0 te h
          rw [seq_nx (env1 := [some (.ref 0), some (.ref 1), some (.str line), some (.lst (.str w0 :: r.map D.str)), none, some (eD e), none]) (S1 := S) (by simp [i0, e2, hC1, te])]
          exact h
        by_cases hN : e.1 < s.1.length ∧ e.2.2 < s.1.length
        · have step3 : ∀ k, seqM (ifS (orB (cmpB isG (varM 5) (cM .non)) (notB (tstM (callM allG (consM (frzM (lcM (seqI (tupM (consM (op2M idxG (varM 5) (cM (.int 0))) (consM (op2M idxG (varM 5) (cM (.int 2))) nilM)))) [6] [6] nameT tYesM (valM (cmpB ltX (varM 6) (callM lenG (consM (varM 0) nilM)))))) nilM))))) (retM (cM (.bl false))) passM) k [some (.ref 0), some (.ref 1), some (.str line), some (.lst ((w0 :: r).map D.str)), none, some (eD e), none] S
              = k [some (.ref 0), some (.ref 1), some (.str line), some (.lst ((w0 :: r).map D.str)), none, some (eD e), none] S := fun k => by
            refine seq_nx ?_
            rw [decide_eq_true hN.1, decide_eq_true hN.2] at bn2
            simp only [l_ifS, l_orB, l_notB, l_tstM, l_callM, l_consM, l_nilM, l_cmpB, l_varM, List.getElem?_cons_succ, List.getElem?_cons_zero, l_cM, R.bind_ok, nn, Bool.false_eq_true, if_false, bn2, allG_two, Bool.and_self, l_truB, truth, Bool.not_true, l_R_st, l_passM]
          have l400 : eqG S (.int (s.2.length : Int)) (.int 400) = .ok false S := by rw [eq_int]; congr 1; simp; omega
          cases hU : upTo s.2 e with
          | true =>
            have hr : rowW s (w0 :: r) = some (s.1, s.2 ++ [e]) := by simp only [rowW]; rw [if_neg hA, if_pos hC, hE2]; simp only []; rw [if_pos ⟨hN, hU⟩]
            rw [hr]
            have ap : app1 S 1 (eD e) = .ok .non [.lst (mL s.1), .lst (eL (s.2 ++ [e]))] := by
              rw [app_ok S1 (by simpa [eL] using h400), ← hS]; simp [eL]
            refine pre ?_
            rw [step3]
            rw [seq_nx (env1 := [some (.ref 0), some (.ref 1), some (.str line), some (.lst ((w0 :: r).map D.str)), none, some (eD e), none]) (S1 := S) (by
              rcases List.eq_nil_or_concat s.2 with hn | ⟨b, l, hn⟩
              · have g2 : decide (s.2 = []) = true := decide_eq_true hn
                rw [g2] at e4
                simp only [l_ifS, l_orB, l_andB, l_cmpB, l_varM, l_frzM, l_lstM, l_nilM, List.getElem?_cons_succ, List.getElem?_cons_zero, R.bind_ok, List.length_nil, Nat.zero_le, if_true, e4, Bool.not_true, Bool.false_eq_true, if_false, l_callM, l_consM, le, l_cM, l400, l_R_st, l_passM]
              · have g2 : decide (s.2 = []) = false := decide_eq_false (by rw [hn]; simp)
                rw [g2] at e4
                have hl2 : S[1]? = some (.lst (eL b ++ [eD l])) := by rw [S1, hn]; simp [eL]
                have il := idx_last hl2
                have lx : leX S (eD e) (eD l) = .ok false S := by
                  have : tlt (keyE l) (keyE e) = true := by
                    unfold upTo at hU
                    rw [hn] at hU; simpa using hU
                  simp only [leX, ordX, tk_eD, keyE, List.map_cons, List.map_nil, isI, if_true]
                  simp only [keyE] at this
                  rw [this]; rfl
                simp only [l_ifS, l_orB, l_andB, l_cmpB, l_varM, l_frzM, l_lstM, l_nilM, List.getElem?_cons_succ, List.getElem?_cons_zero, R.bind_ok, List.length_nil, Nat.zero_le, if_true, e4, Bool.not_false, Bool.false_eq_true, if_false, l_callM, l_consM, le, l_cM, l400, l_R_st, l_passM, l_op2M, hneg, il, lx])]
            simp only [l_seqM, l_expM, l_appM, l_recvM, l_varM, List.getElem?_cons_succ, List.getElem?_cons_zero, R.bind_ok, hrec1, ap, l_R_st, l_retM, l_cM]
          | false =>
            have hr : rowW s (w0 :: r) = none := by simp only [rowW]; rw [if_neg hA, if_pos hC, hE2]; simp only []; rw [if_neg (fun z => by rw [hU] at z; exact nomatch z.2)]
            rw [hr]
            refine pre ?_
            rw [step3]
            refine seq_rt ?_
            rcases List.eq_nil_or_concat s.2 with hn | ⟨b, l, hn⟩
            · unfold upTo at hU; rw [hn] at hU; exact nomatch hU
            · have g2 : decide (s.2 = []) = false := decide_eq_false (by rw [hn]; simp)
              rw [g2] at e4
              have hl2 : S[1]? = some (.lst (eL b ++ [eD l])) := by rw [S1, hn]; simp [eL]
              have il := idx_last hl2
              have lx : leX S (eD e) (eD l) = .ok true S := by
                have : tlt (keyE l) (keyE e) = false := by
                  unfold upTo at hU
                  rw [hn] at hU; simpa using hU
                simp only [leX, ordX, tk_eD, keyE, List.map_cons, List.map_nil, isI, if_true]
                simp only [keyE] at this
                rw [this]; rfl
              simp only [l_ifS, l_orB, l_andB, l_cmpB, l_varM, l_frzM, l_lstM, l_nilM, List.getElem?_cons_succ, List.getElem?_cons_zero, R.bind_ok, List.length_nil, Nat.zero_le, if_true, e4, Bool.not_false, l_cM, l_R_st, l_op2M, hneg, il, lx, l_retM]
        · have hr : rowW s (w0 :: r) = none := by simp only [rowW]; rw [if_neg hA, if_pos hC, hE2]; simp only []; rw [if_neg (fun z => hN z.1)]
          rw [hr]
          refine pre (seq_rt ?_)
          have hz : (decide (e.1 < s.1.length) && decide (e.2.2 < s.1.length)) = false := by
            rw [← Bool.decide_and]; exact decide_eq_false hN
          simp only [l_ifS, l_orB, l_notB, l_tstM, l_callM, l_consM, l_nilM, l_cmpB, l_varM, List.getElem?_cons_succ, List.getElem?_cons_zero, l_cM, R.bind_ok, nn, Bool.false_eq_true, if_false, bn2, allG_two, hz, l_truB, truth, Bool.not_false, if_true, l_R_st, l_retM]
    · have hr : rowW s (w0 :: r) = none := by simp only [rowW]; rw [if_neg hA, if_neg hC]
      rw [hr]
      refine fin ?_
      rw [hb, step1, step2]
      simp only [List.map_cons] at i0
      rw [seq_nx (env1 := [some (.ref 0), some (.ref 1), some (.str line), some (.lst (.str w0 :: r.map D.str)), none, some .non, none]) (S1 := S) (by simp [i0, e2, decide_eq_false hC])]
      exact seq_rt (by simp [isG])
end K25
end

section
set_option Elab.async false
set_option linter.all false
set_option maxRecDepth 100000
set_option maxHeartbeats 4000000
/-! Plain law of k25, part 7: a text read, by the program. -/
namespace K25
open PySem PySem.Spec DL
theorem numW_lt {w : Str} {n : Nat} (h : numW w = some n) : n < 1000000 := by
  unfold numW at h
  split at h
  · rename_i q
    have := vals_lt (sg w) 0 q.2.2.1 (Nat.pow_pos (by decide)) (by rw [← len_sg]; omega)
    cases h
    exact this
  · cases h
theorem edgeW_ok {ws : List Str} {e : Ed} (h : edgeW ws = some e) : okName e.2.1 = true ∧ e.1 < 1000000 ∧ e.2.2 < 1000000 := by
  unfold edgeW at h
  split at h
  · split at h
    · rename_i q
      split at h
      · rename_i x y h1 h2
        cases h
        exact ⟨q, numW_lt h1, numW_lt h2⟩
      · cases h
    · cases h
  · cases h
theorem rowW_fit {s t : Stt} {ws : List Str} (F : Fit s) (W : wOk ws) (W61 : ws.length ≤ 61) (h : rowW s ws = some t) : Fit t ∧ t.2.length ≤ s.2.length + 1 := by
  unfold rowW at h
  split at h
  · cases h
  · rename_i w0 r
    split at h
    · rename_i hA
      split at h
      · rename_i hB
        cases h
        refine ⟨⟨fun x hx => ?_, F.e, by have := F.ml; have := hB.2; simp; omega⟩, by simp⟩
        rcases List.mem_append.mp hx with z | z
        · exact F.m x z
        · rcases List.mem_singleton.mp z with rfl
          exact ⟨hB.1, W.tail, by simp at W61; omega⟩
      · cases h
    · split at h
      · split at h
        · rename_i e he
          split at h
          · rename_i hC
            cases h
            have q := edgeW_ok he
            have := F.ml
            refine ⟨⟨F.m, fun x hx => ?_, F.ml⟩, by simp⟩
            rcases List.mem_append.mp hx with z | z
            · exact F.e x z
            · rcases List.mem_singleton.mp z with rfl
              exact ⟨q.1, by omega, by omega⟩
          · cases h
        · cases h
      · cases h
/-- all lines -/
def readW : Nat → Stt → List (List Nat) → Except (Nat × Bool) Stt
  | _, s, [] => .ok s
  | i, s, l :: ls => match rowW s (wds l) with
    | some t => readW (i + 1) t ls
    | none => .error (i + 1, decide (s.1 ≠ []))
def linesD (ls : List (List Nat)) : List D := ls.map fun l => .str (mkS l)
def missD (b : Bool) : D := .str (if b = true then "edge" else "node")
theorem told_row_ok (s : Stt) (F : Fit s) (hE : s.2.length < 400) (l : List Nat) (ha : asc l) (hl : l.length ≤ 60) : x_told_row [.lst (mL s.1), .lst (eL s.2)] [.ref 0, .ref 1, .str (mkS l)] = match rowW s (wds l) with
      | some t => .ok (.bl true) [.lst (mL t.1), .lst (eL t.2)]
      | none => .ok (.bl false) [.lst (mL s.1), .lst (eL s.2)] := by
  have r := row_run s F hE (mkS l) (by simpa using ha) (by rw [len_mk]; exact hl)
  simp only [sg_mk] at r
  cases q : rowW s (wds l) with
  | some t =>
    rw [q] at r
    exact subK_two (ok := argL) (S := [.lst (mL s.1), .lst (eL s.2)]) (p := mL s.1) (q := eL s.2) (p' := mL t.1) (q' := eL t.2) (n := 0) (m := 1) (ds := [.str (mkS l)]) rfl rfl (by decide) (low_mL _) (low_eL _) r rfl rfl (low_mL _) (low_eL _) rfl rfl rfl (fun _ => rfl)
  | none =>
    rw [q] at r
    exact subK_two (ok := argL) (S := [.lst (mL s.1), .lst (eL s.2)]) (p := mL s.1) (q := eL s.2) (p' := mL s.1) (q' := eL s.2) (n := 0) (m := 1) (ds := [.str (mkS l)]) rfl rfl (by decide) (low_mL _) (low_eL _) r rfl rfl (low_mL _) (low_eL _) rfl rfl rfl (fun _ => rfl)
abbrev T2 : D → Option (List D) := tupT (moreT nameT (moreT nameT noT))
def rdB : FM := (ifS (notB (tstM (callM x_told_row (consM (varM 1) (consM (varM 2) (consM (varM 4) nilM)))))) (raiM 3 (tupM (consM (op2M addA (varM 3) (cM (.int 1))) (consM (ifM (cmpB neG (varM 1) (frzM (lstM nilM))) (cM (.str "edge")) (cM (.str "node"))) nilM)))) passM)
theorem ne_marks (s : Stt) (F : Fit s) (r : Sto) : neG (.lst (mL s.1) :: r) (.ref 0) (.lst []) = .ok (decide (s.1 ≠ [])) (.lst (mL s.1) :: r) := by
  rw [neG_nil (by rfl) F.pdm, isEmpty_mL, decide_not]
theorem read_loop (t : Option D) : ∀ (ls : List (List Nat)) (i : Nat) (s : Stt) (a b : Option D), Fit s → s.2.length + ls.length < 400 → (∀ l ∈ ls, asc l ∧ l.length ≤ 60) →
    match readW i s ls with
    | .ok u => (∃ a' b', forL [3, 4] T2 rdB (enuD i (linesD ls)) [t, some (.ref 0), some (.ref 1), a, b] [.lst (mL s.1), .lst (eL s.2)] = .nx [t, some (.ref 0), some (.ref 1), a', b'] [.lst (mL u.1), .lst (eL u.2)]) ∧ Fit u ∧ u.2.length < 400
    | .error (n, e) => ∃ env' S', forL [3, 4] T2 rdB (enuD i (linesD ls)) [t, some (.ref 0), some (.ref 1), a, b] [.lst (mL s.1), .lst (eL s.2)] = .er (.exc 3 (.tup [.int (n : Int), missD e])) env' S'
  | [], i, s, a, b, F, hE, _ => ⟨⟨a, b, rfl⟩, F, by simpa using hE⟩
  | l :: ls, i, s, a, b, F, hE, hl => by
    simp only [List.length_cons] at hE
    obtain ⟨l1, l2⟩ := hl l List.mem_cons_self
    have tr := told_row_ok s F (by omega) l l1 l2
    have st : forL [3, 4] T2 rdB (enuD i (linesD (l :: ls))) [t, some (.ref 0), some (.ref 1), a, b] [.lst (mL s.1), .lst (eL s.2)] = match rdB [t, some (.ref 0), some (.ref 1), some (.int (i : Int)), some (.str (mkS l))] [.lst (mL s.1), .lst (eL s.2)] with
      | .nx env1 S1 => forL [3, 4] T2 rdB (enuD (i + 1) (linesD ls)) env1 S1
      | .ct env1 S1 => forL [3, 4] T2 rdB (enuD (i + 1) (linesD ls)) env1 S1
      | .bk env1 S1 => .nx env1 S1
      | r => r := rfl
    unfold readW
    cases q : rowW s (wds l) with
    | some u =>
      rw [q] at tr
      obtain ⟨W, W61⟩ := wds_ok l1 l2
      obtain ⟨Fu, hu⟩ := rowW_fit F W W61 q
      have ih := read_loop t ls (i + 1) u (some (.int (i : Int))) (some (.str (mkS l))) Fu (by omega) fun x hx => hl x (List.mem_cons_of_mem _ hx)
      have e : rdB [t, some (.ref 0), some (.ref 1), some (.int (i : Int)), some (.str (mkS l))] [.lst (mL s.1), .lst (eL s.2)] = .nx [t, some (.ref 0), some (.ref 1), some (.int (i : Int)), some (.str (mkS l))] [.lst (mL u.1), .lst (eL u.2)] := by
        simp only [rdB, l_ifS, l_notB, l_tstM, l_callM, l_consM, l_nilM, l_varM, List.getElem?_cons_succ, List.getElem?_cons_zero, R.bind_ok, tr, l_truB, truth, Bool.not_true, l_R_st, Bool.false_eq_true, if_false, l_passM]
      rw [e] at st
      rw [st]
      exact ih
    | none =>
      rw [q] at tr
      have nm := ne_marks s F [.lst (eL s.2)]
      refine ⟨[t, some (.ref 0), some (.ref 1), some (.int (i : Int)), some (.str (mkS l))], [.lst (mL s.1), .lst (eL s.2)], ?_⟩
      have e : rdB [t, some (.ref 0), some (.ref 1), some (.int (i : Int)), some (.str (mkS l))] [.lst (mL s.1), .lst (eL s.2)] = .er (.exc 3 (.tup [.int ((i + 1 : Nat) : Int), missD (decide (s.1 ≠ []))])) [t, some (.ref 0), some (.ref 1), some (.int (i : Int)), some (.str (mkS l))] [.lst (mL s.1), .lst (eL s.2)] := by
        have two : ([D.int ((i : Int) + 1), missD (decide (s.1 ≠ []))] : List D).length ≤ sizeLine := by simp
        simp only [rdB, l_ifS, l_notB, l_tstM, l_callM, l_consM, l_nilM, l_varM, List.getElem?_cons_succ, List.getElem?_cons_zero, R.bind_ok, tr, l_truB, truth, Bool.not_false, l_R_st, if_true, l_raiM, l_tupM, l_op2M, l_cM, add_int, l_ifM, l_cmpB, l_frzM, l_lstM, List.length_nil, Nat.zero_le, nm]
        by_cases z : s.1 = []
        · simp [z, missD]
        · simp [z, missD]
      rw [st, e]
/-- a text that is looked at -/
structure TextOk (t : List Nat) : Prop where
  asc : asc t
  len : t.length ≤ 1000000
  few : (cutW 10 t).length < 400
  lines : ∀ l ∈ cutW 10 t, l.length ≤ 60
theorem TextOk.all {t : List Nat} (h : TextOk t) : ∀ l ∈ cutW 10 t, K25.asc l ∧ l.length ≤ 60 := fun l hl => ⟨fun c hc => h.asc c (((cut_len 10 t).2 l hl).2.1 c hc), h.lines l hl⟩
theorem text_split {S : Sto} {t : List Nat} (h : TextOk t) : splitG S (mkS t) (.str "\n") = .ok (linesD (cutW 10 t)) S := by
  have h1 : ((mkS [10]).length == 0) = false ∧ (mkS t).length + 2 ≤ sizeLine := ⟨by simp, by have := h.len; simp; omega⟩
  rw [nl_lit]
  simp only [splitG, if_pos h1, split_cut (mkS t) (show 10 < 256 by decide), sg_mk, List.map_map]
  rfl
def graphD (s : Stt) : D := .tup [.tup (mL s.1), .tup (eL s.2)]
theorem low_graphD (s : Stt) : lowD 0 (graphD s) = true := by
  have h1 := low_mL s.1
  have h2 := low_eL s.2
  simp [graphD, lowD, lowL, h1, h2]
theorem fit0 : Fit ([], []) := ⟨fun _ h => (by cases h), fun _ h => (by cases h), by simp⟩
theorem read_graph_ok (S : Sto) {t : List Nat} (h : TextOk t) : x_read_graph S [.str (mkS t)] = match readW 0 ([], []) (cutW 10 t) with
    | .ok u => .ok (graphD u) S
    | .error (n, e) => .err (.exc 3 (.tup [.int (n : Int), missD e])) S := by
  have lp := read_loop (some (.str (mkS t))) (cutW 10 t) 0 ([], []) none none fit0 (by have := h.few; simpa using this) h.all
  have hb : b_read_graph = seqM (ifS (notB (tstM (isiM .str (varM 0)))) (raiM 2 (varM 0)) passM)
      (seqM (parM 1 2 (consM (ownM (lstM nilM)) (consM (ownM (lstM nilM)) nilM)))
      (seqM (forM (callI enuI (consM (frzM (sm1F splitG (varM 0) (cM (.str "\n")))) nilM)) [3, 4] T2 rdB) (retM (tupM (consM (callM tupCG (consM (varM 1) nilM)) (consM (callM tupCG (consM (varM 2) nilM)) nilM)))))) := rfl
  have hi : callI enuI (consM (frzM (sm1F splitG (varM 0) (cM (.str "\n")))) nilM) [some (.str (mkS t)), some (.ref 0), some (.ref 1), none, none] [.lst [], .lst []] = .ok (.seq (enuD 0 (linesD (cutW 10 t)))) [.lst [], .lst []] := by
    simp only [l_callI, l_consM, l_frzM, sm1F, l_varM, List.getElem?_cons_zero, R.bind_ok, l_cM, text_split h, l_nilM, enuI]
  have fm := forM_seq (is := [3, 4]) (T := T2) (b := rdB) hi
  have s1 : ∀ k, seqM (ifS (notB (tstM (isiM .str (varM 0)))) (raiM 2 (varM 0)) passM) k [some (.str (mkS t)), none, none, none, none] [] = k [some (.str (mkS t)), none, none, none, none] [] := fun k => seq_nx (by simp)
  have s2 : ∀ k, seqM (parM 1 2 (consM (ownM (lstM nilM)) (consM (ownM (lstM nilM)) nilM))) k [some (.str (mkS t)), none, none, none, none] [] = k [some (.str (mkS t)), some (.ref 0), some (.ref 1), none, none] [.lst [], .lst []] := fun k => seq_nx (by simp)
  cases q : readW 0 ([], []) (cutW 10 t) with
  | ok u =>
    rw [q] at lp
    obtain ⟨⟨a', b', e⟩, Fu, _⟩ := lp
    rw [show ([.lst (mL ([] : List (List Str))), .lst (eL ([] : List Ed))] : Sto) = [.lst [], .lst []] from rfl] at e
    rw [e] at fm
    refine subK_ok (ok := argL) (S1 := [.lst (mL u.1), .lst (eL u.2)]) (ds := [.str (mkS t)]) ?_ rfl rfl (low_graphD u)
    refine body_rt (env := [some (.str (mkS t)), none, none, none, none]) rfl ?_
    rw [hb, s1, s2, seq_nx fm]
    have t0 : tupCG [.lst (mL u.1), .lst (eL u.2)] [.ref 0] = .ok (.tup (mL u.1)) [.lst (mL u.1), .lst (eL u.2)] := by unfold tupCG; simp only [asS_ref (S := [.lst (mL u.1), .lst (eL u.2)]) (n := 0) rfl]
    have t1 : tupCG [.lst (mL u.1), .lst (eL u.2)] [.ref 1] = .ok (.tup (eL u.2)) [.lst (mL u.1), .lst (eL u.2)] := by unfold tupCG; simp only [asS_ref (S := [.lst (mL u.1), .lst (eL u.2)]) (n := 1) rfl]
    simp [t0, t1, graphD]
  | error ne =>
    obtain ⟨n, e⟩ := ne
    rw [q] at lp
    obtain ⟨env', S', el⟩ := lp
    rw [show ([.lst (mL ([] : List (List Str))), .lst (eL ([] : List Ed))] : Sto) = [.lst [], .lst []] from rfl] at el
    rw [el] at fm
    have hx : bodyM 5 b_read_graph [] [.str (mkS t)] = .err (.exc 3 (.tup [.int (n : Int), missD e])) S' := by
      show (match b_read_graph [some (.str (mkS t)), none, none, none, none] [] with | .nx _ S1 => R.ok D.non S1 | .rt d S1 => .ok d S1 | .er x _ S1 => .err x S1 | _ => .stuck) = _
      have z : b_read_graph [some (.str (mkS t)), none, none, none, none] [] = .er (.exc 3 (.tup [.int (n : Int), missD e])) env' S' := by
        rw [hb, s1, s2]
        unfold seqM
        rw [fm]
      rw [z]
    exact subK_er (ok := argL) hx rfl rfl (by cases e <;> rfl)
end K25
end

section
set_option Elab.async false
set_option linter.all false
set_option maxRecDepth 100000
set_option maxHeartbeats 4000000
/-! Plain law of k25, part 8: a text read, by the law. -/
namespace K25
open PySem PySem.Spec DL
def lwB : FM := (seqM (parM 5 6 (consM (frzM (sm1F splitG (varM 4) (cM (.str " ")))) (consM (ifM (cmpB neG (varM 1) (frzM (lstM nilM))) (cM (.str "edge")) (cM (.str "node"))) nilM)))
 (seqM (ifS (andB (cmpB eqG (op2M idxG (varM 5) (cM (.int 0))) (cM (.str "node"))) (cmpB eqG (varM 2) (frzM (lstM nilM)))) (seqM (ifS (orB (notB (tstM (callM x__law_are_marks (consM (callM tupCG (consM (sliM sliG (varM 5) (partM (cM (.int 1))) noneM) nilM)) nilM)))) (cmpB eqG (callM lenG (consM (varM 1) nilM)) (cM (.int 60)))) (retM (tupM (consM (op2M addA (varM 3) (cM (.int 1))) (consM (varM 6) (consM (cM .non) nilM))))) passM)
 (seqM (expM (appM (varM 1) (callM tupCG (consM (sliM sliG (varM 5) (partM (cM (.int 1))) noneM) nilM))))
 cntM)) passM)
 (seqM (ifS (orB (cmpB neG (op2M idxG (varM 5) (cM (.int 0))) (cM (.str "edge"))) (orB (cmpB neG (callM lenG (consM (varM 5) nilM)) (cM (.int 4))) (notB (tstM (callM x__law_is_name (consM (op2M idxG (varM 5) (cM (.int 2))) nilM)))))) (retM (tupM (consM (op2M addA (varM 3) (cM (.int 1))) (consM (varM 6) (consM (cM .non) nilM))))) passM)
 (seqM (parM 7 8 (consM (callM x__law_number (consM (op2M idxG (varM 5) (cM (.int 1))) nilM)) (consM (callM x__law_number (consM (op2M idxG (varM 5) (cM (.int 3))) nilM)) nilM)))
 (seqM (ifS (orB (cmpB isG (varM 7) (cM .non)) (orB (cmpB isG (varM 8) (cM .non)) (cmpB geG (callM max2G (consM (varM 7) (consM (varM 8) nilM))) (callM lenG (consM (varM 1) nilM))))) (retM (tupM (consM (op2M addA (varM 3) (cM (.int 1))) (consM (varM 6) (consM (cM .non) nilM))))) passM)
 (seqM (ifS (andB (cmpB neG (varM 2) (frzM (lstM nilM))) (cmpB leX (tupM (consM (varM 7) (consM (op2M idxG (varM 5) (cM (.int 2))) (consM (varM 8) nilM)))) (op2M idxG (varM 2) (DL.negM (cM (.int 1)))))) (retM (tupM (consM (op2M addA (varM 3) (cM (.int 1))) (consM (varM 6) (consM (cM .non) nilM))))) passM)
 (expM (appM (varM 2) (tupM (consM (varM 7) (consM (op2M idxG (varM 5) (cM (.int 2))) (consM (varM 8) nilM)))))))))))) 
theorem seq_ct {m k : FM} {env env1 : En} {S S1 : Sto} (h : m env S = .ct env1 S1) : seqM m k env S = .ct env1 S1 := by
  unfold seqM; rw [h]
/-- on, or what is returned -/
def onOr (r : RS) (s : Stt) (t : D) (i : Nat) (o : Option Stt) : Prop := match o with
  | some u => ∃ a b w m x y, (r = .nx [some t, some (.ref 0), some (.ref 1), a, b, w, m, x, y] [.lst (mL u.1), .lst (eL u.2)] ∨ r = .ct [some t, some (.ref 0), some (.ref 1), a, b, w, m, x, y] [.lst (mL u.1), .lst (eL u.2)])
  | none => r = .rt (.tup [.int ((i + 1 : Nat) : Int), missD (decide (s.1 ≠ [])), .non]) [.lst (mL s.1), .lst (eL s.2)]
theorem law_row (s : Stt) (F : Fit s) (hE : s.2.length < 400) (l : List Nat) (ha : asc l) (hl : l.length ≤ 60) (t : D) (i : Nat) (w m x y : Option D) :
    onOr (lwB [some t, some (.ref 0), some (.ref 1), some (.int (i : Int)), some (.str (mkS l)), w, m, x, y] [.lst (mL s.1), .lst (eL s.2)]) s t i (rowW s (wds l)) := by
  obtain ⟨W, W61⟩ := wds_ok ha hl
  obtain ⟨w0, r, hw⟩ : ∃ w0 r, wds l = w0 :: r := by
    cases h : wds l with
    | nil => exact absurd h (wds_ne _)
    | cons a b => exact ⟨a, b, rfl⟩
  have sp : ∀ S, splitG S (mkS l) (.str " ") = .ok ((wds l).map D.str) S := fun S => by
    have := cut_split (S := S) (line := mkS l) (by simp; omega) (show 32 < 256 by decide)
    rw [blank_lit]; exact this
  rw [hw] at W W61
  simp only [hw] at sp
  rw [hw]
  have w0ok := W.1 w0 (by simp)
  generalize hS : ([.lst (mL s.1), .lst (eL s.2)] : Sto) = S
  have S0 : S[0]? = some (.lst (mL s.1)) := by rw [← hS]; rfl
  have S1 : S[1]? = some (.lst (eL s.2)) := by rw [← hS]; rfl
  have nm : neG S (.ref 0) (.lst []) = .ok (decide (s.1 ≠ [])) S := by rw [← hS]; exact ne_marks s F _
  have e1 := word_eq S (k := "node") w0ok (by decide +kernel)
  have e2 : neG S (.str w0) (.str "edge") = .ok (!decide (w0 = "edge")) S := by unfold neG; rw [word_eq S (k := "edge") w0ok (by decide +kernel)]; rfl
  have e3 : eqG S (.ref 1) (.lst []) = .ok (decide (s.2 = [])) S := by rw [eq_nil S1 F.pde, isEmpty_eL]
  have e4 : neG S (.ref 1) (.lst []) = .ok (!decide (s.2 = [])) S := by rw [neG_nil S1 F.pde, isEmpty_eL]
  have i0 : idxG S (.lst ((w0 :: r).map D.str)) (.int 0) = .ok (.str w0) S := by
    have := idx_lst S ((w0 :: r).map D.str) 0 (by simp)
    simpa using this
  have sl : sliG S (.lst ((w0 :: r).map D.str)) (some 1) none = .ok (.lst (r.map D.str)) S := by
    have : cutD ((w0 :: r).map D.str) (some 1) none = r.map D.str := by
      simp [cutD, HT.sIx]
      exact List.take_of_length_le (by simp)
    simp only [sliG, asL_lst, this]
  have lm : lenG S [.ref 0] = .ok (.int s.1.length) S := by rw [len_ref S0]; simp [mL]
  have tm := law_are_marks_ok S W.tail
  have hrec0 : recv S (.ref 0) = some 0 := recv_ok S0
  have hrec1 : recv S (.ref 1) = some 1 := recv_ok S1
  have hneg : DL.negM (cM (.int 1)) = fun env S => .ok (.int (-1)) S := rfl
  have h60 : s.1.length < sizeLine := by have := F.ml; simp; omega
  have h400 : s.2.length < sizeLine := by simp; omega
  have md : (if decide (s.1 ≠ []) = true then D.str "edge" else D.str "node") = missD (decide (s.1 ≠ [])) := by unfold missD; split <;> rfl
  have three : ([D.int ((i + 1 : Nat) : Int), missD (decide (s.1 ≠ [])), D.non] : List D).length ≤ sizeLine := by simp
  have ic : (i : Int) + 1 = ((i + 1 : Nat) : Int) := by omega
  have step1 : ∀ k, seqM (parM 5 6 (consM (frzM (sm1F splitG (varM 4) (cM (.str " ")))) (consM (ifM (cmpB neG (varM 1) (frzM (lstM nilM))) (cM (.str "edge")) (cM (.str "node"))) nilM))) k [some t, some (.ref 0), some (.ref 1), some (.int (i : Int)), some (.str (mkS l)), w, m, x, y] S
      = k [some t, some (.ref 0), some (.ref 1), some (.int (i : Int)), some (.str (mkS l)), some (.lst ((w0 :: r).map D.str)), some (missD (decide (s.1 ≠ []))), x, y] S := fun k => by
    refine seq_nx ?_
    by_cases z : s.1 = []
    · have zz : decide (s.1 ≠ []) = false := decide_eq_false (fun q => q z)
      rw [zz] at nm
      simp only [l_parM, l_consM, l_frzM, sm1F, l_varM, List.getElem?_cons_succ, List.getElem?_cons_zero, R.bind_ok, l_cM, sp, l_ifM, l_cmpB, l_lstM, l_nilM, List.length_nil, Nat.zero_le, if_true, nm, Bool.false_eq_true, if_false, l_R_st, List.set_cons_succ, List.set_cons_zero, zz, missD]
    · have zz : decide (s.1 ≠ []) = true := decide_eq_true z
      rw [zz] at nm
      simp only [l_parM, l_consM, l_frzM, sm1F, l_varM, List.getElem?_cons_succ, List.getElem?_cons_zero, R.bind_ok, l_cM, sp, l_ifM, l_cmpB, l_lstM, l_nilM, List.length_nil, Nat.zero_le, if_true, nm, l_R_st, List.set_cons_succ, List.set_cons_zero, zz, missD]
  generalize hM : missD (decide (s.1 ≠ [])) = mi at step1 three
  have ret : ∀ (v7 v8 : Option D), retM (tupM (consM (op2M addA (varM 3) (cM (.int 1))) (consM (varM 6) (consM (cM .non) nilM)))) [some t, some (.ref 0), some (.ref 1), some (.int (i : Int)), some (.str (mkS l)), some (.lst ((w0 :: r).map D.str)), some mi, v7, v8] S = .rt (.tup [.int ((i + 1 : Nat) : Int), mi, .non]) S := fun v7 v8 => by
    simp only [l_retM, l_tupM, l_consM, l_op2M, l_varM, List.getElem?_cons_succ, List.getElem?_cons_zero, R.bind_ok, l_cM, add_int, l_nilM, three, if_true, l_R_st, ic]
  have no : ∀ {R : RS}, R = .rt (.tup [.int ((i + 1 : Nat) : Int), mi, .non]) S → onOr R s t i none := fun {R} h => by
    show R = _
    rw [h, hM, hS]
  unfold lwB
  rw [step1]
  have hneg2 := hneg
  by_cases hA : w0 = "node" ∧ s.2 = []
  · have g1 : decide (w0 = "node") = true := decide_eq_true hA.1
    have g2 : decide (s.2 = []) = true := decide_eq_true hA.2
    have tc : tupCG S [.lst (r.map D.str)] = .ok (sD r) S := rfl
    by_cases hB : mkOk r = true ∧ s.1.length ≠ 60
    · have hr : rowW s (w0 :: r) = some (s.1 ++ [r], s.2) := by simp only [rowW]; rw [if_pos hA, if_pos hB]
      rw [hr]
      have h6 : eqG S (.int (s.1.length : Int)) (.int 60) = .ok false S := by
        have := hB.2
        rw [eq_int]; congr 1; simp; omega
      rw [hB.1] at tm
      have ap : app1 S 0 (sD r) = .ok .non [.lst (mL (s.1 ++ [r])), .lst (eL s.2)] := by
        rw [app_ok S0 (by simpa [mL] using h60), ← hS]; simp [mL]
      refine ⟨some (.int (i : Int)), some (.str (mkS l)), some (.lst ((w0 :: r).map D.str)), some mi, x, y, .inr (seq_ct ?_)⟩
      simp only [l_ifS, l_andB, l_cmpB, l_op2M, l_varM, List.getElem?_cons_succ, List.getElem?_cons_zero, R.bind_ok, l_cM, i0, e1, g1, if_true, l_frzM, l_lstM, l_nilM, List.length_nil, Nat.zero_le, e3, g2, l_R_st, l_seqM, l_orB, l_notB, l_tstM, l_callM, l_consM, l_sliM, l_partM, l_noneM, sl, tc, tm, l_truB, truth, Bool.not_true, Bool.false_eq_true, if_false, lm, h6, l_passM, l_expM, l_appM, l_recvM, hrec0, ap]
      rfl
    · have hr : rowW s (w0 :: r) = none := by simp only [rowW]; rw [if_pos hA, if_neg hB]
      rw [hr]
      refine no (seq_rt ?_)
      have rt := ret x y
      cases q : mkOk r with
      | false =>
        rw [q] at tm
        simp only [l_ifS, l_andB, l_cmpB, l_op2M, l_varM, List.getElem?_cons_succ, List.getElem?_cons_zero, R.bind_ok, l_cM, i0, e1, g1, if_true, l_frzM, l_lstM, l_nilM, List.length_nil, Nat.zero_le, e3, g2, l_R_st, l_seqM, l_orB, l_notB, l_tstM, l_callM, l_consM, l_sliM, l_partM, l_noneM, sl, tc, tm, l_truB, truth, Bool.not_false]
        rw [rt]
      | true =>
        rw [q] at tm
        have h6 : eqG S (.int (s.1.length : Int)) (.int 60) = .ok true S := by
          have h7 : s.1.length = 60 := Classical.byContradiction fun z => hB ⟨q, z⟩
          rw [eq_int, h7]; rfl
        simp only [l_ifS, l_andB, l_cmpB, l_op2M, l_varM, List.getElem?_cons_succ, List.getElem?_cons_zero, R.bind_ok, l_cM, i0, e1, g1, if_true, l_frzM, l_lstM, l_nilM, List.length_nil, Nat.zero_le, e3, g2, l_R_st, l_seqM, l_orB, l_notB, l_tstM, l_callM, l_consM, l_sliM, l_partM, l_noneM, sl, tc, tm, l_truB, truth, Bool.not_true, Bool.false_eq_true, if_false, lm, h6]
        rw [rt]
  · have step2 : ∀ a k, seqM (ifS (andB (cmpB eqG (op2M idxG (varM 5) (cM (.int 0))) (cM (.str "node"))) (cmpB eqG (varM 2) (frzM (lstM nilM)))) a passM) k [some t, some (.ref 0), some (.ref 1), some (.int (i : Int)), some (.str (mkS l)), some (.lst ((w0 :: r).map D.str)), some mi, x, y] S
        = k [some t, some (.ref 0), some (.ref 1), some (.int (i : Int)), some (.str (mkS l)), some (.lst ((w0 :: r).map D.str)), some mi, x, y] S := fun a k => by
      refine seq_nx ?_
      by_cases g : w0 = "node"
      · have g2 : decide (s.2 = []) = false := decide_eq_false fun z => hA ⟨g, z⟩
        have g1 : decide (w0 = "node") = true := decide_eq_true g
        simp only [l_ifS, l_andB, l_cmpB, l_op2M, l_varM, List.getElem?_cons_succ, List.getElem?_cons_zero, R.bind_ok, l_cM, i0, e1, g1, if_true, l_frzM, l_lstM, l_nilM, List.length_nil, Nat.zero_le, e3, g2, l_R_st, Bool.false_eq_true, if_false, l_passM]
      · have g1 : decide (w0 = "node") = false := decide_eq_false g
        simp only [l_ifS, l_andB, l_cmpB, l_op2M, l_varM, List.getElem?_cons_succ, List.getElem?_cons_zero, R.bind_ok, l_cM, i0, e1, g1, l_R_st, Bool.false_eq_true, if_false, l_passM]
    rw [step2]
    by_cases hC : w0 = "edge"
    · have hC1 : decide (w0 = "edge") = true := decide_eq_true hC
      rw [hC1] at e2
      by_cases h4 : (w0 :: r).length = 4
      · obtain ⟨a0, b, c, d, hq⟩ := four h4
        simp only [List.cons.injEq] at hq
        obtain ⟨rfl, rfl⟩ := hq
        have hw' := W.1
        obtain ⟨j0, j1, j2, j3, j4⟩ := idx4 S (.str w0) (.str b) (.str c) (.str d)
        have f1 : x__law_is_name S [.str c] = .ok (.bl (okName c)) S := x__law_is_name_ok S (.str c) (n := 0) (asc_pd (hw' c (by simp)).1 (hw' c (by simp)).2)
        have f2 := law_number_ok S b (hw' b (by simp)).2
        have f3 := law_number_ok S d (hw' d (by simp)).2
        have l4 : neG S (.int ((([D.str w0, .str b, .str c, .str d] : List D).length : Nat) : Int)) (.int 4) = .ok false S := by rw [ne_int]; rfl
        cases qn : okName c with
        | false =>
          have hr : rowW s [w0, b, c, d] = none := by simp only [rowW]; rw [if_neg hA, if_pos hC]; simp [edgeW, qn]
          rw [hr]
          rw [qn] at f1
          refine no (seq_rt ?_)
          have rt := ret x y
          simp only [List.map_cons, List.map_nil] at rt ⊢
          simp only [List.map_cons, List.map_nil] at i0
          simp only [l_ifS, l_orB, l_cmpB, l_op2M, l_varM, List.getElem?_cons_succ, List.getElem?_cons_zero, R.bind_ok, l_cM, i0, e2, Bool.not_true, Bool.false_eq_true, if_false, l_callM, l_consM, l_nilM, len_lst, l4, l_notB, l_tstM, j2, f1, l_truB, truth, Bool.not_false, if_true, l_R_st]
          rw [rt]
        | true =>
          rw [qn] at f1
          have step3 : ∀ a k, seqM (ifS (orB (cmpB neG (op2M idxG (varM 5) (cM (.int 0))) (cM (.str "edge"))) (orB (cmpB neG (callM lenG (consM (varM 5) nilM)) (cM (.int 4))) (notB (tstM (callM x__law_is_name (consM (op2M idxG (varM 5) (cM (.int 2))) nilM)))))) a passM) k [some t, some (.ref 0), some (.ref 1), some (.int (i : Int)), some (.str (mkS l)), some (.lst ([w0, b, c, d].map D.str)), some mi, x, y] S
              = k [some t, some (.ref 0), some (.ref 1), some (.int (i : Int)), some (.str (mkS l)), some (.lst ([w0, b, c, d].map D.str)), some mi, x, y] S := fun a k => by
            refine seq_nx ?_
            simp only [List.map_cons, List.map_nil] at i0 ⊢
            simp only [l_ifS, l_orB, l_cmpB, l_op2M, l_varM, List.getElem?_cons_succ, List.getElem?_cons_zero, R.bind_ok, l_cM, i0, e2, Bool.not_true, Bool.false_eq_true, if_false, l_callM, l_consM, l_nilM, len_lst, l4, l_notB, l_tstM, j2, f1, l_truB, truth, l_R_st, l_passM]
          have step4 : ∀ k, seqM (parM 7 8 (consM (callM x__law_number (consM (op2M idxG (varM 5) (cM (.int 1))) nilM)) (consM (callM x__law_number (consM (op2M idxG (varM 5) (cM (.int 3))) nilM)) nilM))) k [some t, some (.ref 0), some (.ref 1), some (.int (i : Int)), some (.str (mkS l)), some (.lst ([w0, b, c, d].map D.str)), some mi, x, y] S
              = k [some t, some (.ref 0), some (.ref 1), some (.int (i : Int)), some (.str (mkS l)), some (.lst ([w0, b, c, d].map D.str)), some mi, some (numD b), some (numD d)] S := fun k => by
            refine seq_nx ?_
            simp only [List.map_cons, List.map_nil]
            simp only [l_parM, l_callM, l_consM, l_op2M, l_varM, List.getElem?_cons_succ, List.getElem?_cons_zero, R.bind_ok, l_cM, l_nilM, j1, j3, f2, f3, l_R_st, List.set_cons_succ, List.set_cons_zero]
          rw [step3, step4]
          rcases numD_cases b with ⟨p, x1, x2⟩ | ⟨x1, x2⟩
          · rcases numD_cases d with ⟨q, y1, y2⟩ | ⟨y1, y2⟩
            · rw [x2, y2]
              have he : edgeW [w0, b, c, d] = some (p, c, q) := by simp [edgeW, qn, x1, y1]
              have n1 : isG S (.int (p : Int)) .non = .ok false S := rfl
              have n2 : isG S (.int (q : Int)) .non = .ok false S := rfl
              have mx : max2G S [.int (p : Int), .int (q : Int)] = .ok (.int (if (q : Int) > p then (q : Int) else p)) S := rfl
              have gx : geG S (.int (if (q : Int) > p then (q : Int) else p)) (.int (s.1.length : Int)) = .ok (decide (¬ (p < s.1.length ∧ q < s.1.length))) S := by
                simp only [ordG]
                congr 1
                rw [decide_eq_decide]
                split <;> omega
              by_cases hN : p < s.1.length ∧ q < s.1.length
              · rw [decide_eq_false (Classical.not_not.mpr hN)] at gx
                have step5 : ∀ a k, seqM (ifS (orB (cmpB isG (varM 7) (cM .non)) (orB (cmpB isG (varM 8) (cM .non)) (cmpB geG (callM max2G (consM (varM 7) (consM (varM 8) nilM))) (callM lenG (consM (varM 1) nilM))))) a passM) k [some t, some (.ref 0), some (.ref 1), some (.int (i : Int)), some (.str (mkS l)), some (.lst ([w0, b, c, d].map D.str)), some mi, some (.int (p : Int)), some (.int (q : Int))] S
                    = k [some t, some (.ref 0), some (.ref 1), some (.int (i : Int)), some (.str (mkS l)), some (.lst ([w0, b, c, d].map D.str)), some mi, some (.int (p : Int)), some (.int (q : Int))] S := fun a k => by
                  refine seq_nx ?_
                  simp only [l_ifS, l_orB, l_cmpB, l_varM, List.getElem?_cons_succ, List.getElem?_cons_zero, R.bind_ok, l_cM, n1, n2, Bool.false_eq_true, if_false, l_callM, l_consM, l_nilM, mx, lm, gx, l_R_st, l_passM]
                rw [step5]
                have ed : ([D.int (p : Int), .str c, .int (q : Int)] : List D).length ≤ sizeLine := by simp
                cases hU : upTo s.2 (p, c, q) with
                | true =>
                  have hr : rowW s [w0, b, c, d] = some (s.1, s.2 ++ [(p, c, q)]) := by simp only [rowW]; rw [if_neg hA, if_pos hC, he]; simp only []; rw [if_pos ⟨hN, hU⟩]
                  rw [hr]
                  have ap : app1 S 1 (eD (p, c, q)) = .ok .non [.lst (mL s.1), .lst (eL (s.2 ++ [(p, c, q)]))] := by
                    rw [app_ok S1 (by simpa [eL] using h400), ← hS]; simp [eL]
                  simp only [eD] at ap
                  refine ⟨some (.int (i : Int)), some (.str (mkS l)), some (.lst ([w0, b, c, d].map D.str)), some mi, some (.int (p : Int)), some (.int (q : Int)), .inl ?_⟩
                  have step6 : ∀ a k, seqM (ifS (andB (cmpB neG (varM 2) (frzM (lstM nilM))) (cmpB leX (tupM (consM (varM 7) (consM (op2M idxG (varM 5) (cM (.int 2))) (consM (varM 8) nilM)))) (op2M idxG (varM 2) (DL.negM (cM (.int 1)))))) a passM) k [some t, some (.ref 0), some (.ref 1), some (.int (i : Int)), some (.str (mkS l)), some (.lst ([w0, b, c, d].map D.str)), some mi, some (.int (p : Int)), some (.int (q : Int))] S
                      = k [some t, some (.ref 0), some (.ref 1), some (.int (i : Int)), some (.str (mkS l)), some (.lst ([w0, b, c, d].map D.str)), some mi, some (.int (p : Int)), some (.int (q : Int))] S := fun a k => by
                    refine seq_nx ?_
                    rcases List.eq_nil_or_concat s.2 with hn | ⟨b', l', hn⟩
                    · have g2 : decide (s.2 = []) = true := decide_eq_true hn
                      rw [g2] at e4
                      simp only [l_ifS, l_andB, l_cmpB, l_varM, l_frzM, l_lstM, l_nilM, List.getElem?_cons_succ, List.getElem?_cons_zero, R.bind_ok, List.length_nil, Nat.zero_le, if_true, e4, Bool.not_true, Bool.false_eq_true, if_false, l_R_st, l_passM]
                    · have g2 : decide (s.2 = []) = false := decide_eq_false (by rw [hn]; simp)
                      rw [g2] at e4
                      have hl2 : S[1]? = some (.lst (eL b' ++ [eD l'])) := by rw [S1, hn]; simp [eL]
                      have il := idx_last hl2
                      have lx : leX S (.tup [.int (p : Int), .str c, .int (q : Int)]) (eD l') = .ok false S := by
                        have : tlt (keyE l') (keyE (p, c, q)) = true := by
                          unfold upTo at hU
                          rw [hn] at hU; simpa using hU
                        show ordX _ _ S (eD (p, c, q)) (eD l') = _
                        simp only [ordX, tk_eD, keyE, List.map_cons, List.map_nil, isI, if_true]
                        simp only [keyE] at this
                        rw [this]; rfl
                      simp only [List.map_cons, List.map_nil]
                      simp only [l_ifS, l_andB, l_cmpB, l_varM, l_frzM, l_lstM, l_nilM, List.getElem?_cons_succ, List.getElem?_cons_zero, R.bind_ok, List.length_nil, Nat.zero_le, if_true, e4, Bool.not_false, l_tupM, l_consM, l_op2M, l_cM, j2, ed, hneg, il, lx, Bool.false_eq_true, if_false, l_R_st, l_passM]
                  rw [step6]
                  simp only [List.map_cons, List.map_nil]
                  simp only [l_expM, l_appM, l_recvM, l_varM, List.getElem?_cons_succ, List.getElem?_cons_zero, R.bind_ok, hrec1, l_tupM, l_consM, l_op2M, l_cM, l_nilM, j2, ed, if_true, ap, l_R_st]
                | false =>
                  have hr : rowW s [w0, b, c, d] = none := by simp only [rowW]; rw [if_neg hA, if_pos hC, he]; simp only []; rw [if_neg (fun z => by rw [hU] at z; exact nomatch z.2)]
                  rw [hr]
                  refine no (seq_rt ?_)
                  have rt := ret (some (.int (p : Int))) (some (.int (q : Int)))
                  rcases List.eq_nil_or_concat s.2 with hn | ⟨b', l', hn⟩
                  · unfold upTo at hU; rw [hn] at hU; exact nomatch hU
                  · have g2 : decide (s.2 = []) = false := decide_eq_false (by rw [hn]; simp)
                    rw [g2] at e4
                    have hl2 : S[1]? = some (.lst (eL b' ++ [eD l'])) := by rw [S1, hn]; simp [eL]
                    have il := idx_last hl2
                    have lx : leX S (.tup [.int (p : Int), .str c, .int (q : Int)]) (eD l') = .ok true S := by
                      have : tlt (keyE l') (keyE (p, c, q)) = false := by
                        unfold upTo at hU
                        rw [hn] at hU; simpa using hU
                      show ordX _ _ S (eD (p, c, q)) (eD l') = _
                      simp only [ordX, tk_eD, keyE, List.map_cons, List.map_nil, isI, if_true]
                      simp only [keyE] at this
                      rw [this]; rfl
                    simp only [List.map_cons, List.map_nil] at rt ⊢
                    simp only [l_ifS, l_andB, l_cmpB, l_varM, l_frzM, l_lstM, l_nilM, List.getElem?_cons_succ, List.getElem?_cons_zero, R.bind_ok, List.length_nil, Nat.zero_le, if_true, e4, Bool.not_false, l_tupM, l_consM, l_op2M, l_cM, j2, ed, hneg, il, lx, l_R_st]
                    rw [rt]
              · rw [decide_eq_true hN] at gx
                have hr : rowW s [w0, b, c, d] = none := by simp only [rowW]; rw [if_neg hA, if_pos hC, he]; simp only []; rw [if_neg (fun z => hN z.1)]
                rw [hr]
                refine no (seq_rt ?_)
                have rt := ret (some (.int (p : Int))) (some (.int (q : Int)))
                simp only [l_ifS, l_orB, l_cmpB, l_varM, List.getElem?_cons_succ, List.getElem?_cons_zero, R.bind_ok, l_cM, n1, n2, Bool.false_eq_true, if_false, l_callM, l_consM, l_nilM, mx, lm, gx, if_true, l_R_st]
                rw [rt]
            · have hr : rowW s [w0, b, c, d] = none := by simp only [rowW]; rw [if_neg hA, if_pos hC]; simp [edgeW, qn, x1, y1]
              rw [hr, x2, y2]
              refine no (seq_rt ?_)
              have rt := ret (some (.int (p : Int))) (some .non)
              have n1 : isG S (.int (p : Int)) .non = .ok false S := rfl
              have n2 : isG S .non .non = .ok true S := rfl
              simp only [l_ifS, l_orB, l_cmpB, l_varM, List.getElem?_cons_succ, List.getElem?_cons_zero, R.bind_ok, l_cM, n1, n2, Bool.false_eq_true, if_false, if_true, l_R_st]
              rw [rt]
          · have hr : rowW s [w0, b, c, d] = none := by simp only [rowW]; rw [if_neg hA, if_pos hC]; simp [edgeW, qn, x1]
            rw [hr, x2]
            refine no (seq_rt ?_)
            have rt := ret (some .non) (some (numD d))
            have n2 : isG S .non .non = .ok true S := rfl
            simp only [l_ifS, l_orB, l_cmpB, l_varM, List.getElem?_cons_succ, List.getElem?_cons_zero, R.bind_ok, l_cM, n2, if_true, l_R_st]
            rw [rt]
      · have he : edgeW (w0 :: r) = none := by
          unfold edgeW
          split
          · rename_i heq; rw [heq] at h4; simp at h4
          · rfl
        have hr : rowW s (w0 :: r) = none := by simp only [rowW]; rw [if_neg hA, if_pos hC, he]
        rw [hr]
        refine no (seq_rt ?_)
        have rt := ret x y
        have l4 : neG S (.int (((w0 :: r).map D.str).length : Int)) (.int 4) = .ok true S := by
          rw [ne_int]; congr 1
          have : ¬ ((((w0 :: r).map D.str).length : Int) = 4) := by simp only [List.length_map]; omega
          simp only [Bool.not_eq_true', beq_eq_false_iff_ne]; exact this
        simp only [l_ifS, l_orB, l_cmpB, l_op2M, l_varM, List.getElem?_cons_succ, List.getElem?_cons_zero, R.bind_ok, l_cM, i0, e2, Bool.not_true, Bool.false_eq_true, if_false, l_callM, l_consM, l_nilM, len_lst, l4, if_true, l_R_st]
        rw [rt]
    · have hr : rowW s (w0 :: r) = none := by simp only [rowW]; rw [if_neg hA, if_neg hC]
      rw [hr]
      refine no (seq_rt ?_)
      have rt := ret x y
      rw [decide_eq_false hC] at e2
      simp only [l_ifS, l_orB, l_cmpB, l_op2M, l_varM, List.getElem?_cons_succ, List.getElem?_cons_zero, R.bind_ok, l_cM, i0, e2, Bool.not_false, if_true, l_R_st]
      rw [rt]
end K25
end

section
set_option Elab.async false
set_option linter.all false
set_option maxRecDepth 100000
set_option maxHeartbeats 4000000
/-! Plain law of k25, part 9: what the law reads; what is read is a graph. -/
namespace K25
open PySem PySem.Spec DL
def runE (i : Nat) (t : D) (ls : List (List Nat)) (s : Stt) (a b w m x y : Option D) : RS := forL [3, 4] T2 lwB (enuD i (linesD ls)) [some t, some (.ref 0), some (.ref 1), a, b, w, m, x, y] [.lst (mL s.1), .lst (eL s.2)]
def endE (t : D) (r : RS) : Except (Nat × Bool) Stt → Prop
  | .ok u => ∃ a b w m x y : Option D, r = .nx [some t, some (.ref 0), some (.ref 1), a, b, w, m, x, y] [.lst (mL u.1), .lst (eL u.2)]
  | .error (n, e) => ∃ S', r = .rt (.tup [.int (n : Int), missD e, .non]) S'
theorem law_loop (t : D) : ∀ (ls : List (List Nat)) (i : Nat) (s : Stt) (a b w m x y : Option D), Fit s → s.2.length + ls.length < 400 → (∀ l ∈ ls, asc l ∧ l.length ≤ 60) → endE t (runE i t ls s a b w m x y) (readW i s ls)
  | [], i, s, a, b, w, m, x, y, F, hE, _ => ⟨a, b, w, m, x, y, rfl⟩
  | l :: ls, i, s, a, b, w, m, x, y, F, hE, hl => by
    simp only [List.length_cons] at hE
    obtain ⟨l1, l2⟩ := hl l List.mem_cons_self
    have lr := law_row s F (by omega) l l1 l2 t i w m x y
    have st : runE i t (l :: ls) s a b w m x y = match lwB [some t, some (.ref 0), some (.ref 1), some (.int (i : Int)), some (.str (mkS l)), w, m, x, y] [.lst (mL s.1), .lst (eL s.2)] with
      | .nx env1 S1 => forL [3, 4] T2 lwB (enuD (i + 1) (linesD ls)) env1 S1
      | .ct env1 S1 => forL [3, 4] T2 lwB (enuD (i + 1) (linesD ls)) env1 S1
      | .bk env1 S1 => .nx env1 S1
      | r => r := rfl
    unfold readW
    cases q : rowW s (wds l) with
    | some u =>
      rw [q] at lr
      obtain ⟨W, W61⟩ := wds_ok l1 l2
      obtain ⟨Fu, hu⟩ := rowW_fit F W W61 q
      obtain ⟨a', b', w', m', x', y', e⟩ := lr
      have ih := law_loop t ls (i + 1) u a' b' w' m' x' y' Fu (by omega) fun z hz => hl z (List.mem_cons_of_mem _ hz)
      rcases e with e | e <;> rw [e] at st <;> rw [st] <;> exact ih
    | none =>
      rw [q] at lr
      have e : lwB [some t, some (.ref 0), some (.ref 1), some (.int (i : Int)), some (.str (mkS l)), w, m, x, y] [.lst (mL s.1), .lst (eL s.2)] = .rt (.tup [.int ((i + 1 : Nat) : Int), missD (decide (s.1 ≠ [])), .non]) [.lst (mL s.1), .lst (eL s.2)] := lr
      rw [st, e]
      exact ⟨_, rfl⟩
def lawD : Except (Nat × Bool) Stt → D
  | .ok u => .tup [.non, .non, graphD u]
  | .error (n, e) => .tup [.int (n : Int), missD e, .non]
theorem low_lawD (r : Except (Nat × Bool) Stt) : lowD 0 (lawD r) = true := by
  cases r with
  | ok u => have := low_graphD u; simp [lawD, lowD, lowL, this]
  | error ne => obtain ⟨n, e⟩ := ne; cases e <;> rfl
theorem law_read_ok (S : Sto) {t : List Nat} (h : TextOk t) : x__law_read S [.str (mkS t)] = .ok (lawD (readW 0 ([], []) (cutW 10 t))) S := by
  have lp := law_loop (.str (mkS t)) (cutW 10 t) 0 ([], []) none none none none none none fit0 (by have := h.few; simpa using this) h.all
  have hb : b__law_read = seqM (parM 1 2 (consM (ownM (lstM nilM)) (consM (ownM (lstM nilM)) nilM)))
      (seqM (forM (callI enuI (consM (frzM (sm1F splitG (varM 0) (cM (.str "\n")))) nilM)) [3, 4] T2 lwB) (retM (tupM (consM (cM .non) (consM (cM .non) (consM (tupM (consM (callM tupCG (consM (varM 1) nilM)) (consM (callM tupCG (consM (varM 2) nilM)) nilM))) nilM)))))) := rfl
  have hi : callI enuI (consM (frzM (sm1F splitG (varM 0) (cM (.str "\n")))) nilM) [some (.str (mkS t)), some (.ref 0), some (.ref 1), none, none, none, none, none, none] [.lst [], .lst []] = .ok (.seq (enuD 0 (linesD (cutW 10 t)))) [.lst [], .lst []] := by
    simp only [l_callI, l_consM, l_frzM, sm1F, l_varM, List.getElem?_cons_zero, R.bind_ok, l_cM, text_split h, l_nilM, enuI]
  have fm := forM_seq (is := [3, 4]) (T := T2) (b := lwB) hi
  have s2 : ∀ k, seqM (parM 1 2 (consM (ownM (lstM nilM)) (consM (ownM (lstM nilM)) nilM))) k [some (.str (mkS t)), none, none, none, none, none, none, none, none] [] = k [some (.str (mkS t)), some (.ref 0), some (.ref 1), none, none, none, none, none, none] [.lst [], .lst []] := fun k => seq_nx (by simp)
  rw [show forL [3, 4] T2 lwB (enuD 0 (linesD (cutW 10 t))) [some (.str (mkS t)), some (.ref 0), some (.ref 1), none, none, none, none, none, none] [.lst [], .lst []] = runE 0 (.str (mkS t)) (cutW 10 t) ([], []) none none none none none none from rfl] at fm
  have hl := low_lawD (readW 0 ([], []) (cutW 10 t))
  cases q : readW 0 ([], []) (cutW 10 t) with
  | ok u =>
    rw [q] at lp hl
    obtain ⟨a, b, w, m, x, y, e⟩ := lp
    rw [e] at fm
    refine subK_ok (ok := argL) (S1 := [.lst (mL u.1), .lst (eL u.2)]) (ds := [.str (mkS t)]) ?_ rfl rfl hl
    refine body_rt (env := [some (.str (mkS t)), none, none, none, none, none, none, none, none]) rfl ?_
    rw [hb, s2, seq_nx fm]
    have t0 : tupCG [.lst (mL u.1), .lst (eL u.2)] [.ref 0] = .ok (.tup (mL u.1)) [.lst (mL u.1), .lst (eL u.2)] := by unfold tupCG; simp only [asS_ref (S := [.lst (mL u.1), .lst (eL u.2)]) (n := 0) rfl]
    have t1 : tupCG [.lst (mL u.1), .lst (eL u.2)] [.ref 1] = .ok (.tup (eL u.2)) [.lst (mL u.1), .lst (eL u.2)] := by unfold tupCG; simp only [asS_ref (S := [.lst (mL u.1), .lst (eL u.2)]) (n := 1) rfl]
    simp [t0, t1, graphD, lawD]
  | error ne =>
    obtain ⟨n, e⟩ := ne
    rw [q] at lp hl
    obtain ⟨S', el⟩ := lp
    rw [el] at fm
    refine subK_ok (ok := argL) (S1 := S') (ds := [.str (mkS t)]) ?_ rfl rfl hl
    refine body_rt (env := [some (.str (mkS t)), none, none, none, none, none, none, none, none]) rfl ?_
    rw [hb, s2]
    exact seq_rt fm
/-! ### what is read is a graph -/
def risE (es : List Ed) : Bool := (es.zip es.tail).all fun p => tlt (keyE p.1) (keyE p.2)
theorem ris_snoc : ∀ (b : List Ed) (l e : Ed), risE (b ++ [l]) = true → tlt (keyE l) (keyE e) = true → risE (b ++ [l] ++ [e]) = true
  | [], l, e, _, h => by simp [risE, h]
  | [x], l, e, q, h => by
    simp [risE] at q ⊢
    exact ⟨q, h⟩
  | x :: y :: b, l, e, q, h => by
    have ih := ris_snoc (y :: b) l e (by simp [risE] at q ⊢; exact q.2) h
    simp [risE] at q ih ⊢
    exact ⟨q.1, ih⟩
structure Gd (s : Stt) : Prop where
  fit : Fit s
  ris : risE s.2 = true
  inn : ∀ e ∈ s.2, e.1 < s.1.length ∧ e.2.2 < s.1.length
theorem rowW_gd {s t : Stt} {ws : List Str} (G : Gd s) (W : wOk ws) (W61 : ws.length ≤ 61) (h : rowW s ws = some t) : Gd t ∧ t.1 ≠ [] := by
  obtain ⟨F, _⟩ := rowW_fit G.fit W W61 h
  unfold rowW at h
  split at h
  · cases h
  · rename_i w0 r
    split at h
    · rename_i hA
      split at h
      · cases h
        refine ⟨⟨F, G.ris, fun e he => ?_⟩, by simp⟩
        rw [show s.2 = [] from hA.2] at he
        cases he
      · cases h
    · split at h
      · split at h
        · rename_i e he
          split at h
          · rename_i hC
            cases h
            refine ⟨⟨F, ?_, fun x hx => ?_⟩, fun z => ?_⟩
            · rcases List.eq_nil_or_concat s.2 with hn | ⟨b, l, hn⟩
              · simp only [hn]; rfl
              · rw [List.concat_eq_append] at hn
                have hU := hC.2
                have hr := G.ris
                unfold upTo at hU
                rw [hn] at hU hr
                simp only [hn]
                exact ris_snoc b l e hr (by simpa using hU)
            · rcases List.mem_append.mp hx with z | z
              · exact G.inn x z
              · rcases List.mem_singleton.mp z with rfl
                exact hC.1
            · have := hC.1.1
              rw [show s.1 = [] from z] at this
              simp at this
          · cases h
        · cases h
      · cases h
theorem readW_gd : ∀ (ls : List (List Nat)) (i : Nat) (s u : Stt), Gd s → (∀ l ∈ ls, asc l ∧ l.length ≤ 60) → (ls ≠ [] ∨ s.1 ≠ []) → readW i s ls = .ok u → Gd u ∧ u.1 ≠ []
  | [], i, s, u, G, _, hn, h => by
    simp only [readW, Except.ok.injEq] at h
    subst h
    exact ⟨G, by rcases hn with z | z; exact absurd rfl z; exact z⟩
  | l :: ls, i, s, u, G, hl, _, h => by
    obtain ⟨l1, l2⟩ := hl l List.mem_cons_self
    obtain ⟨W, W61⟩ := wds_ok l1 l2
    unfold readW at h
    split at h
    · rename_i t q
      obtain ⟨G', hn⟩ := rowW_gd G W W61 q
      exact readW_gd ls (i + 1) t u G' (fun z hz => hl z (List.mem_cons_of_mem _ hz)) (.inr hn) h
    · cases h
theorem gd0 : Gd ([], []) := ⟨fit0, rfl, fun e he => (by cases he)⟩
end K25
end

section
set_option Elab.async false
set_option linter.all false
set_option maxRecDepth 100000
set_option maxHeartbeats 4000000
/-! Plain law of k25, part 10: is_graph. -/
namespace K25
open PySem PySem.Spec DL
theorem is_int_ok (S : Sto) (a lo hi : Int) : x_is_int S [.int a, .int lo, .int hi] = .ok (.bl (decide (lo ≤ a) && decide (a ≤ hi))) S := by
  refine subK_ok (ok := argL) (S1 := []) (ds := [.int a, .int lo, .int hi]) ?_ rfl rfl rfl
  by_cases h : lo ≤ a
  · simp [b_is_int, ordG, h]
  · simp [b_is_int, ordG, h]
theorem len_eD (S : Sto) (e : Ed) : lenG S [eD e] = .ok (.int 3) S := rfl
theorem is_edge_ok (S : Sto) (e : Ed) (n : Nat) (h : okName e.2.1 = true) (h1 : e.1 < n) (h2 : e.2.2 < n) : x_is_edge S [eD e, .int (n : Int)] = .ok (.bl true) S := by
  refine subK_ok (ok := argL) (S1 := []) (ds := [eD e, .int (n : Int)]) ?_ rfl rfl rfl
  have e1 : x_is_name [] [.str e.2.1] = .ok (.bl (okName e.2.1)) [] := x_is_name_ok [] (.str e.2.1) (n := 0) (pd_lit (okName_lit h))
  rw [h] at e1
  have i1 := is_int_ok [] (e.1 : Int) 0 ((n : Int) - 1)
  have i2 := is_int_ok [] (e.2.2 : Int) 0 ((n : Int) - 1)
  rw [decide_eq_true (show (0 : Int) ≤ (e.1 : Int) by omega), decide_eq_true (show (e.1 : Int) ≤ (n : Int) - 1 by omega)] at i1
  rw [decide_eq_true (show (0 : Int) ≤ (e.2.2 : Int) by omega), decide_eq_true (show (e.2.2 : Int) ≤ (n : Int) - 1 by omega)] at i2
  have sb : subG [] (.int (n : Int)) (.int 1) = .ok (.int ((n : Int) - 1)) [] := by simp [subG, intG, cAny]
  simp [b_is_edge, eD, e1, i1, i2, sb]
theorem zip_eL : ∀ (a b : List Ed), zipD (a.map eD) (b.map eD) = (a.zip b).map fun p => .tup [eD p.1, eD p.2]
  | [], b => by cases b <;> rfl
  | x :: a, [] => rfl
  | x :: a, y :: b => by simp [zipD, zip_eL a b]
theorem is_rising_ok (S : Sto) (es : List Ed) (hl : es.length ≤ 1000) : x_is_rising S [.tup (eL es)] = .ok (.bl (risE es)) S := by
  have hlow : lowD 0 (.tup (eL es)) = true := low_eL es
  refine subK_ok (ok := argL) (S1 := []) (ds := [.tup (eL es)]) ?_ rfl (by simp [argL, hlow]) rfl
  have h1 : cutD (es.map eD) (some 1) none = (es.map eD).tail := by
    cases es with
    | nil => rfl
    | cons a r =>
      simp [cutD, HT.sIx]
      exact List.take_of_length_le (by simp)
  have zz : zipD (es.map eD) (es.map eD).tail = (es.zip es.tail).map fun p => .tup [eD p.1, eD p.2] := by
    rw [← List.map_tail]; exact zip_eL es es.tail
  have e := lcM_pure (S0 := []) (S := []) (env := [some (.tup (eL es)), none, none]) (own := [1, 2]) (is := [1, 2]) (T := tupT (moreT nameT (moreT nameT noT))) (mt := tYesM) (me := valM (cmpB ltX (varM 1) (varM 2))) (mi := callI zipI (consM (varM 0) (consM (sliM sliG (varM 0) (partM (cM (.int 1))) noneM) nilM))) (ds := (es.zip es.tail).map fun p => .tup [eD p.1, eD p.2]) (fun _ => true)
    (fun d => match d with | .tup [x, y] => (match tkOf x, tkOf y with | some k, some l => .bl (tlt k l) | _, _ => .non) | _ => .non) (by
      simp [-List.map_tail, eL, sliG, h1, zipI, zz]) (fun d hd => by
      obtain ⟨p, _, rfl⟩ := List.mem_map.mp hd
      exact ⟨[eD p.1, eD p.2], rfl, rfl, fun _ => rfl⟩) (by simp; omega)
  rw [List.filter_eq_self.mpr (fun _ _ => rfl), List.map_map] at e
  have e2 := allG_map [] (fun p : Ed × Ed => tlt (keyE p.1) (keyE p.2)) (es.zip es.tail)
  have e4 : callM allG (consM (frzM (lcM (callI zipI (consM (varM 0) (consM (sliM sliG (varM 0) (partM (cM (.int 1))) noneM) nilM))) [1, 2] [1, 2] (tupT (moreT nameT (moreT nameT noT))) tYesM (valM (cmpB ltX (varM 1) (varM 2))))) nilM) [some (.tup (eL es)), none, none] [] = .ok (.bl (risE es)) [] := by
    simp only [l_callM, l_consM, frz_eq e, R.bind_ok, l_nilM]
    exact e2
  refine body_rt (env := [some (.tup (eL es)), none, none]) rfl ?_
  unfold b_is_rising
  show (callM allG _ _ _).st _ _ = _
  rw [e4]
  rfl
theorem all_one {α : Type} (S : Sto) (l : List α) : allG S [.lst (l.map fun _ => D.bl true)] = .ok (.bl true) S := by
  have := allG_map S (fun _ : α => true) l
  rw [List.all_eq_true.mpr fun _ _ => rfl] at this
  exact this
theorem is_graph_ok (S : Sto) (u : Stt) (G : Gd u) (hn : u.1 ≠ []) (hE : u.2.length ≤ 400) : x_is_graph S [graphD u] = .ok (.bl true) S := by
  refine subK_ok (ok := argL) (S1 := []) (ds := [graphD u]) ?_ rfl (by simp [argL, low_graphD]) rfl
  have F := G.fit
  have h1 : 1 ≤ u.1.length := by
    cases h : u.1 with
    | nil => exact absurd h hn
    | cons a r => simp
  have hml := F.ml
  have a1 : (1 : Int) ≤ ((mL u.1).length : Int) := by simp [mL]; omega
  have a2 : ((mL u.1).length : Int) ≤ 60 := by simp [mL]; omega
  have a3 : ¬ (400 : Int) < ((eL u.2).length : Int) := by simp [eL]; omega
  have i0 : ∀ S, idxG S (graphD u) (.int 0) = .ok (.tup (mL u.1)) S := fun S => rfl
  have i1 : ∀ S, idxG S (graphD u) (.int 1) = .ok (.tup (eL u.2)) S := fun S => rfl
  have em := lcM_map (S0 := []) (S := []) (env := [some (graphD u), none, none]) (mi := seqI (op2M idxG (varM 0) (cM (.int 0)))) (j := 1) (me := callM x_are_names (consM (varM 1) nilM)) (ds := mL u.1) (fun _ => .bl true) (by simp [i0, walkO]) (fun d hd => by
    obtain ⟨x, hx, rfl⟩ := List.mem_map.mp hd
    have := are_names_ok [] (F.m x hx).2.1
    rw [(F.m x hx).1] at this
    simp [this]) (by simp [mL]; omega)
  have ee := lcM_map (S0 := []) (S := []) (env := [some (graphD u), none, none]) (mi := seqI (op2M idxG (varM 0) (cM (.int 1)))) (j := 2) (me := callM x_is_edge (consM (varM 2) (consM (callM lenG (consM (op2M idxG (varM 0) (cM (.int 0))) nilM)) nilM))) (ds := eL u.2) (fun _ => .bl true) (by simp [i1, walkO]) (fun d hd => by
    obtain ⟨x, hx, rfl⟩ := List.mem_map.mp hd
    have := is_edge_ok [] x (mL u.1).length (F.e x hx).1 (by simpa [mL] using (G.inn x hx).1) (by simpa [mL] using (G.inn x hx).2)
    simp [i0, this]) (by simp [eL]; omega)
  have er := is_rising_ok [] u.2 (by omega)
  rw [G.ris] at er
  have am := all_one [] (mL u.1)
  have ae := all_one [] (eL u.2)
  have fm := frz_eq em
  have fe := frz_eq ee
  have ty : ∀ S, tyName S (graphD u) = some "tuple" := fun _ => rfl
  have lg : ∀ S, lenG S [graphD u] = .ok (.int 2) S := fun _ => rfl
  refine body_rt (env := [some (graphD u), none, none]) rfl ?_
  unfold b_is_graph
  rw [seq_nx (env1 := [some (graphD u), none, none]) (S1 := []) (by simp [ty, lg, i0])]
  rw [seq_nx (env1 := [some (graphD u), none, none]) (S1 := []) (by
    simp only [l_ifS, l_orB, l_notB, l_chB, l_cM, R.bind_ok, l_callM, l_consM, l_op2M, l_varM, List.getElem?_cons_zero, i0, l_nilM, len_tup, ordG, decide_eq_true a1, if_true, decide_eq_true a2, Bool.not_true, Bool.false_eq_true, if_false, l_tstM, fm, am, l_truB, truth, l_R_st, l_passM])]
  rw [seq_nx (env1 := [some (graphD u), none, none]) (S1 := []) (by
    simp only [l_ifS, l_orB, l_notB, l_tstM, l_isiM, l_op2M, l_varM, List.getElem?_cons_zero, l_cM, R.bind_ok, i1, ty_tupD, ty_t1, l_truB, truth, Bool.not_true, Bool.false_eq_true, if_false, l_cmpB, l_callM, l_consM, l_nilM, len_tup, ordG, decide_eq_false a3, l_R_st, l_passM])]
  simp only [l_retM, l_andM, l_callM, l_consM, l_nilM, fe, R.bind_ok, ae, l_truB, truth, if_true, l_op2M, l_varM, List.getElem?_cons_zero, l_cM, i1, er, l_R_st]
theorem look_ok (S : Sto) (u : Stt) (G : Gd u) (hn : u.1 ≠ []) (hE : u.2.length ≤ 400) : x_look_at_graph S [graphD u] = .ok .non S := by
  refine subK_ok (ok := argL) (S1 := []) (ds := [graphD u]) ?_ rfl (by simp [argL, low_graphD]) rfl
  have := is_graph_ok [] u G hn hE
  simp [b_look_at_graph, this]
/-! ### can_be_read -/
theorem can_be_ok (S : Sto) {t : List Nat} (h : TextOk t) : x_can_be_read_as_graph S [.str (mkS t)] = .ok (.bl (match readW 0 ([], []) (cutW 10 t) with | .ok _ => true | .error _ => false)) S := by
  have rg := read_graph_ok [] h
  refine subK_ok (ok := argL) (S1 := []) (ds := [.str (mkS t)]) ?_ rfl rfl (by cases readW 0 ([], []) (cutW 10 t) <;> rfl)
  cases q : readW 0 ([], []) (cutW 10 t) with
  | ok u =>
    obtain ⟨G, hn⟩ := readW_gd _ 0 ([], []) u gd0 h.all (.inl (cutW_ne 10 t)) q
    have lp := read_loop none (cutW 10 t) 0 ([], []) none none fit0 (by have := h.few; simpa using this) h.all
    rw [q] at rg lp
    have ig := is_graph_ok [] u G hn (Nat.le_of_lt lp.2.2)
    simp [b_can_be_read_as_graph, tryM, rg, ig]
  | error ne =>
    obtain ⟨n, e⟩ := ne
    rw [q] at rg
    simp [b_can_be_read_as_graph, tryM, rg, noErM]
end K25
end

section
set_option Elab.async false
set_option linter.all false
set_option maxRecDepth 100000
set_option maxHeartbeats 4000000
/-! Plain law of k25, part 11: repr. -/
namespace K25
open PySem PySem.Spec PyProof.Rows DL
/-- a text of signs, not longer than B -/
def tx (B : Nat) (s : Str) : Prop := PyData.strOk s = true ∧ s.length ≤ B
theorem ok_append {a b : Str} (h : PyData.strOk a = true) (g : PyData.strOk b = true) : PyData.strOk (a ++ b) = true := by
  show ((a.cps ++ b.cps).all (· < 0x110000)) = true
  rw [Array.all_append, Bool.and_eq_true]
  exact ⟨h, g⟩
theorem tx.append {A B : Nat} {a b : Str} (h : tx A a) (g : tx B b) : tx (A + B) (a ++ b) := ⟨ok_append h.1 g.1, by rw [strLen_append]; exact Nat.add_le_add h.2 g.2⟩
theorem tx.le {A B : Nat} {a : Str} (h : tx A a) (l : A ≤ B) : tx B a := ⟨h.1, Nat.le_trans h.2 l⟩
theorem tx_lit {s : Str} {B : Nat} (h : (PyData.strOk s && decide (s.length ≤ B)) = true) : tx B s := by
  simp only [Bool.and_eq_true, decide_eq_true_eq] at h
  exact h
theorem tx_join {B : Nat} : ∀ {ts : List Str}, (∀ t ∈ ts, tx B t) → tx (ts.length * (B + 2)) (Str.join ", " ts)
  | [], _ => ⟨by decide +kernel, by simp [Str.join]; decide⟩
  | [x], h => (h x (by simp)).le (by simp)
  | x :: y :: r, h => by
    have ih := tx_join (ts := y :: r) fun t ht => h t (List.mem_cons_of_mem _ ht)
    have h1 : tx 2 (", " : Str) := tx_lit (by decide +kernel)
    have h2 := ((h x (by simp)).append h1).append ih
    refine (show tx _ (x ++ ", " ++ Str.join ", " (y :: r)) from h2).le ?_
    simp only [List.length_cons]
    rw [Nat.add_mul (r.length + 1) 1]
    omega

/-! ### how long -/
mutual
def wt : D → Nat
  | .non => 4
  | .int _ => 20
  | .str s => 10 * s.length + 2
  | .tup ds => wtL ds + 3
  | _ => 0
def wtL : List D → Nat
  | [] => 0
  | d :: ds => wt d + 2 + wtL ds
end
def rB : Nat → D → Bool
  | _, .non => true
  | _, .int i => decide (0 ≤ i ∧ i < 1000000)
  | _, .str s => s.cps.toList.all fun c => decide (c < 128)
  | n + 1, .tup ds => ds.all (rB n)
  | _, _ => false
theorem char_asc : ∀ c < 128, ∀ q ∈ [34, 39], ∀ x ∈ Builtin.Str.reprChar q c, x < 128 := by decide +kernel
theorem quote_two (x : Str) : reprQuote x ∈ [34, 39] := by
  unfold reprQuote
  repeat' split
  all_goals decide
theorem fold_asc (q : Nat) (hq : q ∈ [34, 39]) : ∀ (l : List Nat) (acc : Array Nat), (∀ c ∈ acc.toList, c < 128) → (∀ c ∈ l, c < 128) → ∀ c ∈ (l.foldl (fun out c => out ++ (Builtin.Str.reprChar q c).toArray) acc).toList, c < 128
  | [], acc, h, _ => h
  | c :: l, acc, h, g => by
    refine fold_asc q hq l _ (fun x hx => ?_) fun y hy => g y (List.mem_cons_of_mem _ hy)
    rw [Array.toList_append] at hx
    rcases List.mem_append.mp hx with z | z
    · exact h x z
    · exact char_asc c (g c List.mem_cons_self) q hq x (by simpa using z)
theorem repr_asc {x : Str} (h : asc (sg x)) : asc (sg (reprText x)) := by
  have hq := quote_two x
  have q128 : reprQuote x < 128 := by
    simp only [List.mem_cons, List.not_mem_nil, or_false] at hq
    omega
  intro c hc
  unfold reprText at hc
  have hc : c ∈ ((x.cps.foldl (fun out c => out ++ (Builtin.Str.reprChar (reprQuote x) c).toArray) #[reprQuote x]).push (reprQuote x)).toList := hc
  rw [Array.toList_push, List.mem_append, List.mem_singleton] at hc
  rcases hc with z | z
  · rw [← Array.foldl_toList] at z
    exact fold_asc _ hq _ _ (fun y hy => by simp at hy; omega) h c z
  · omega
theorem repr_len {x : Str} (h : asc (sg x)) : (reprText x).length ≤ 10 * x.length + 2 := StrLaws.reprText_len x fun c hc => by have := h c hc; omega
def sumL (ts : List Str) : Nat := (ts.map (·.length)).sum
theorem le_sum {t : Str} : ∀ {ts : List Str}, t ∈ ts → t.length ≤ sumL ts
  | u :: ts, h => by
    simp only [sumL, List.map_cons, List.sum_cons]
    rcases List.mem_cons.mp h with rfl | h
    · omega
    · have := le_sum h
      simp only [sumL] at this
      omega
theorem tup_len {ts : List Str} (h : ∀ t ∈ ts, PyData.strOk t = true) : PyData.strOk (tupleText ts) = true ∧ (tupleText ts).length ≤ sumL ts + ts.length * 2 + 3 := by
  have h1 : tx 1 ("(" : Str) := tx_lit (by decide +kernel)
  have h3 : tx 2 ((if ts.length == 1 then ",)" else ")" : String) : Str) := by
    split
    · exact tx_lit (by decide +kernel)
    · exact tx_lit (by decide +kernel)
  have hj : tx (sumL ts + ts.length * 2) (Str.join ", " ts) := ⟨(tx_join (B := sumL ts) fun t ht => ⟨h t ht, le_sum ht⟩).1, StrLaws.join_length_le ", " ts⟩
  have := (h1.append hj).append h3
  exact ⟨this.1, Nat.le_trans this.2 (by omega)⟩
structure Rq (n : Nat) (p : PyData) (k : Nat) : Prop where
  show_ : p.showable = true
  dict : p.hasDict = false
  dep : p.depth ≤ n
  ok : PyData.strOk p.shown = true
  len : p.shown.length ≤ k
theorem int_shown {i : Int} (h : 0 ≤ i ∧ i < 1000000) : PyData.strOk (PyData.shown (.int i)) = true ∧ (PyData.shown (.int i)).length ≤ 20 := by
  obtain ⟨n, rfl⟩ := Int.eq_ofNat_of_zero_le h.1
  have e : sg (PyData.shown (.int (n : Int))) = TL.numL n := TL.tl_num n
  refine ⟨asc_ok fun c hc => ?_, ?_⟩
  · rw [e] at hc
    have := TL.numL_digits n c hc
    omega
  · rw [len_sg, e]
    exact Nat.le_trans (TL.numL_len (k := 6) (by decide) (by omega)) (by decide)
theorem rB_list {n : Nat} : ∀ {ds : List D}, (∀ d ∈ ds, ∃ p, toPy d = some p ∧ Rq n p (wt d)) → ∃ ps, toPyL ds = some ps ∧ PyData.showableAll ps = true ∧ PyData.hasDictAll ps = false ∧ PyData.depthAll ps ≤ n ∧ (∀ t ∈ PyData.shownAll ps, PyData.strOk t = true) ∧ sumL (PyData.shownAll ps) + (PyData.shownAll ps).length * 2 ≤ wtL ds
  | [], _ => ⟨[], rfl, rfl, rfl, Nat.zero_le _, by simp [PyData.shownAll], by simp [PyData.shownAll, sumL]⟩
  | d :: ds, h => by
    obtain ⟨p, h1, q⟩ := h d (by simp)
    obtain ⟨ps, g1, g2, g3, g4, g5, g6⟩ := rB_list (ds := ds) fun x hx => h x (List.mem_cons_of_mem _ hx)
    have := q.dep
    have := q.len
    refine ⟨p :: ps, by simp only [toPyL, h1, g1], by simp only [PyData.showableAll, q.show_, g2, Bool.and_self], by simp only [PyData.hasDictAll, q.dict, g3, Bool.or_self], by simp only [PyData.depthAll]; omega, ?_, ?_⟩
    · intro t ht
      simp only [PyData.shownAll, List.mem_cons] at ht
      rcases ht with rfl | ht
      · exact q.ok
      · exact g5 t ht
    · simp only [sumL] at g6 ⊢
      simp only [PyData.shownAll, List.map_cons, List.sum_cons, List.length_cons, wtL]
      omega
theorem rB_py : ∀ {n : Nat} {d : D}, rB n d = true → ∃ p, toPy d = some p ∧ Rq n p (wt d) := by
  have at_ : ∀ {n : Nat} {d : D}, (d = .non ∨ (∃ i : Int, d = .int i ∧ 0 ≤ i ∧ i < 1000000) ∨ ∃ s : Str, d = .str s ∧ asc (sg s)) → ∃ p, toPy d = some p ∧ Rq n p (wt d) := fun {n d} h => by
    rcases h with rfl | ⟨i, rfl, h⟩ | ⟨s, rfl, h⟩
    · exact ⟨.none, rfl, rfl, rfl, Nat.zero_le _, by decide +kernel, by decide +kernel⟩
    · obtain ⟨h1, h2⟩ := int_shown h
      refine ⟨.int i, rfl, ?_, rfl, Nat.zero_le _, h1, h2⟩
      simp only [PyData.showable, decide_eq_true_eq]
      by_cases z : i.natAbs = 0
      · rw [z]; decide
      · have e20 : i.natAbs < 2 ^ 20 := by
          rw [show (2 : Nat) ^ 20 = 1048576 by decide]
          omega
        have := (Nat.log2_lt z).mpr e20
        omega
    · exact ⟨.str s, rfl, rfl, rfl, Nat.zero_le _, asc_ok (repr_asc h), repr_len h⟩
  intro n
  induction n with
  | zero =>
    intro d h
    cases d <;> simp only [rB, Bool.false_eq_true, decide_eq_true_eq, List.all_eq_true] at h
    case non => exact at_ (.inl rfl)
    case int i => exact at_ (.inr (.inl ⟨i, rfl, h⟩))
    case str s => exact at_ (.inr (.inr ⟨s, rfl, h⟩))
  | succ n ih =>
    intro d h
    cases d <;> simp only [rB, Bool.false_eq_true, decide_eq_true_eq, List.all_eq_true] at h
    case non => exact at_ (.inl rfl)
    case int i => exact at_ (.inr (.inl ⟨i, rfl, h⟩))
    case str s => exact at_ (.inr (.inr ⟨s, rfl, h⟩))
    case tup ds =>
      obtain ⟨ps, g1, g2, g3, g4, g5, g6⟩ := rB_list fun x hx => ih (h x hx)
      obtain ⟨t1, t2⟩ := tup_len g5
      refine ⟨.tuple ps, by simp only [toPy, g1, Option.map_some], by simpa only [PyData.showable] using g2, by simpa only [PyData.hasDict] using g3, by simp only [PyData.depth]; omega, t1, ?_⟩
      refine Nat.le_trans (show (tupleText (PyData.shownAll ps)).length ≤ _ from t2) ?_
      simp only [wt]; omega
theorem str_self (S : Sto) {s : Str} (h : PyData.strOk s = true) : eqG S (.str s) (.str s) = .ok true S ∧ neG S (.str s) (.str s) = .ok false S := by
  have e : SeqAt.shaped (.str s) = true := by simp [SeqAt.shaped, PyData.canLay0, PyData.depth, h]
  have e2 : PyData.eqv (.str s) (.str s) = true := by simp [PyData.eqv]
  have e3 : eqG S (.str s) (.str s) = .ok true S := by
    unfold eqG
    simp only [view, toPy, e, Bool.and_self, if_true, e2]
  exact ⟨e3, by unfold neG; rw [e3]; rfl⟩
/-- what repr gives is told, and is what it is -/
def Shows (d : D) : Prop := ∃ s : Str, (∀ S, reprG S [d] = .ok (.str s) S) ∧ ∀ S, eqG S (.str s) (.str s) = .ok true S ∧ neG S (.str s) (.str s) = .ok false S
theorem rB_view {S : Sto} {n : Nat} {d : D} (h : rB n d = true) : view S d = d := by
  cases d <;> first | rfl | (cases n <;> simp [rB] at h)
theorem shows {n : Nat} {d : D} (h : rB n d = true) (hn : n ≤ 50) (hw : wt d ≤ 16000000) : Shows d := by
  obtain ⟨p, h1, q⟩ := rB_py h
  refine ⟨p.shown, fun S => ?_, fun S => str_self S q.ok⟩
  have e : (p.showable && !p.hasDict && decide (p.depth < 60) && decide (p.shown.length ≤ sizeLine)) = true := by
    have := q.dep
    have := q.len
    simp only [q.show_, q.dict, Bool.not_false, Bool.and_true, Bool.true_and, Bool.and_eq_true, decide_eq_true_eq]
    exact ⟨by omega, by rw [szl]; omega⟩
  unfold reprG
  simp only [rB_view h, h1, e, if_true]
end K25
end

section
set_option Elab.async false
set_option linter.all false
set_option maxRecDepth 100000
set_option maxHeartbeats 4000000
/-! Plain law of k25, part 12: a text is right. -/
namespace K25
open PySem PySem.Spec DL
mutual
theorem low_par : ∀ (d : D), lowD 0 d = true → parD d = true
  | .non, _ => rfl
  | .bl _, _ => rfl
  | .int _, _ => rfl
  | .str _, _ => rfl
  | .tup ds, q => low_parL ds q
  | .lst ds, q => low_parL ds q
  | .scr ds, q => low_parL ds q
  | .dic _ ds, q => low_parL ds q
  | .exc _ v, q => low_par v q
  | .fn _, _ => rfl
  | .clo _ _, q => by simp [lowD] at q
  | .ref k, q => by simp [lowD] at q
theorem low_parL : ∀ (ds : List D), lowL 0 ds = true → parL ds = true
  | [], _ => rfl
  | d :: ds, q => by
    simp only [lowL, Bool.and_eq_true] at q
    simp only [parL, low_par d q.1, low_parL ds q.2, Bool.and_self]
end
theorem sub_pure {x : Fn} {ds : List D} {d : D} (S : Sto) (h : x [] ds = .ok d []) (h0 : refsOf ds = []) (h1 : ds.all argL = true) (h3 : lowD 0 d = true) : subM x S ds = .ok d S := subK_ok h h0 h1 h3
theorem z_ok {y : En → Sto → R D} {d r : D} (h : y [some d] [] = .ok r []) (ha : argN d = true) (h0 : refsOf [d] = []) (hr : lowD 0 r = true) : subK argN (bodyM 1 (retM y)) [] [d] = .ok r [] := by
  refine subK_ok (S1 := []) ?_ h0 (by simp [ha]) hr
  simp [h]
theorem z_er {y : En → Sto → R D} {d r : D} (h : y [some d] [] = .err r []) (ha : argN d = true) (h0 : refsOf [d] = []) (hr : lowD 0 r = true) : subK argN (bodyM 1 (retM y)) [] [d] = .err r [] := by
  refine subK_er (S1 := []) ?_ h0 (by simp [ha]) hr
  simp [h]
theorem clo_arg {k : Nat} {es : List D} (hk : k < 1000) (he : lowL 0 es = true) : argL (.clo k es) = true := by simp [argL, isRef, hk, he]
theorem heard_ok {k : Nat} {es : List D} {m : Fn} {d : D} (S : Sto) (hk : k < 1000) (he : lowL 0 es = true) (ht : tc__law_heard_call k = some m) (h : subK argN m [] es = .ok d []) (hd : lowD 0 d = true) : x__law_heard S [.clo k es] = .ok (.tup [.non, d]) S := by
  have hlow : lowD 0 (.tup [.non, d]) = true := by simp [lowD, lowL, hd]
  refine subK_ok (ok := argL) (S1 := []) (ds := [.clo k es]) ?_ rfl (by simp [clo_arg hk he]) hlow
  simp [b__law_heard, tryM, callV, ht, h]
theorem heard_er {k c : Nat} {es : List D} {m : Fn} {v : D} (S : Sto) (hk : k < 1000) (he : lowL 0 es = true) (ht : tc__law_heard_call k = some m) (h : subK argN m [] es = .err (.exc c v) []) (hc : c < 4) (hd : lowD 0 v = true) : x__law_heard S [.clo k es] = .ok (.tup [.exc c v, .non]) S := by
  have hlow : lowD 0 (.tup [.exc c v, .non]) = true := by simp [lowD, lowL, hd]
  refine subK_ok (ok := argL) (S1 := []) (ds := [.clo k es]) ?_ rfl (by simp [clo_arg hk he]) hlow
  have : c = 0 ∨ c = 1 ∨ c = 2 ∨ c = 3 := by omega
  rcases this with rfl | rfl | rfl | rfl <;> simp [b__law_heard, tryM, keepM, callV, ht, h]
/-- the call of a lambda of the frame -/

theorem hearsO {f : Nat → Option (List Nat)} {ms : En → Sto → R (List D)} {env : En} {S : Sto} {k : Nat} {js : List Nat} {es : List D} {d e : D} (hms : ms env S = .ok [.clo (1000 + k) []] S) (hj : f k = some js) (hc : capsL env js = some es) (hk : k < 1000) (he : lowL 0 es = true)
    (h : x__law_heard [] [.clo k es] = .ok (.tup [d, e]) []) (hd : lowD 0 (.tup [d, e]) = true) (hS : S.all parO = true) : callO x__law_heard f ms env S = .ok (.tup [d, e]) S := by
  have h1 : closeD env f (.clo (1000 + k) []) = some (.clo k es) := by
    have h2 : ¬ 1000 + k < 1000 := by omega
    have h3 : 1000 + k - 1000 = k := by omega
    simp only [closeD, if_neg h2, h3, hj, hc, Option.map_some]
  have h4 : subM x__law_heard S [.clo k es] = .ok (.tup [d, e]) S := subK_ok (S1 := []) h rfl (by simp [clo_arg hk he]) hd
  have h5 := low_par _ hd
  unfold callO
  simp only [hms, R.bind_ok, mapO, h1, h4, chkO, h5, hS, Bool.and_self, if_true]
theorem tc_0 : tc__law_heard_call 0 = some z_0 := by simp [tc__law_heard_call, insT]
theorem tc_1 : tc__law_heard_call 1 = some z_1 := by simp [tc__law_heard_call, insT]
theorem tc_2 : tc__law_heard_call 2 = some z_2 := by simp [tc__law_heard_call, insT]
theorem low_missD (e : Bool) : lowD 0 (missD e) = true := by cases e <;> rfl
theorem heard_0 {t : List Nat} (h : TextOk t) : x__law_heard [] [.clo 0 [.str (mkS t)]] = .ok (match readW 0 ([], []) (cutW 10 t) with | .ok u => .tup [.non, graphD u] | .error (n, e) => .tup [.exc 3 (.tup [.int (n : Int), missD e]), .non]) [] := by
  have rg := read_graph_ok [] h
  cases q : readW 0 ([], []) (cutW 10 t) with
  | ok u =>
    rw [q] at rg
    exact heard_ok [] (by decide) rfl tc_0 (z_ok (by simp [y_0, rg]) rfl rfl (low_graphD u)) (low_graphD u)
  | error ne =>
    obtain ⟨n, e⟩ := ne
    rw [q] at rg
    have hl : lowD 0 (.tup [.int (n : Int), missD e]) = true := by cases e <;> rfl
    exact heard_er [] (by decide) rfl tc_0 (z_er (by simp [y_0, rg]) rfl rfl (by simpa [lowD] using hl)) (by decide) hl
theorem is_bool_ok (S : Sto) (a b : Bool) : x__law_is_bool S [.bl a, .bl b] = .ok (.bl (a == b)) S := by
  refine subK_ok (ok := argL) (f := bodyM 2 b__law_is_bool) (S := S) (S1 := []) (ds := [.bl a, .bl b]) (d := .bl (a == b)) ?_ rfl rfl rfl
  have e : eqG [] (.bl a) (.bl b) = .ok (a == b) [] := by
    rw [eqG_pd rfl rfl]; cases a <;> cases b <;> rfl
  simp [b__law_is_bool, e]
theorem name_asc {s : Str} (h : okName s = true) : asc (sg s) := fun c hc => by
  simp only [okName, Bool.and_eq_true, nameC, List.all_eq_true, decide_eq_true_eq] at h
  have := h.2 c hc
  have key : ∀ c ∈ ("abcdefghijklmnopqrstuvwxyz" : Str).cps.toList, c < 128 := by decide +kernel
  exact key c this
theorem name_len {s : Str} (h : okName s = true) : s.length ≤ 12 := by
  simp only [okName, Bool.and_eq_true, decide_eq_true_eq] at h
  exact h.1.2
theorem rB_str {n : Nat} {s : Str} (h : asc (sg s)) : rB n (.str s) = true := by
  cases n <;> (simp only [rB, List.all_eq_true, decide_eq_true_eq]; exact h)
theorem mk_names {m : List Str} (h : mkOk m = true) : ∀ s ∈ m, okName s = true := by
  simp only [mkOk, Bool.and_eq_true, List.all_eq_true] at h
  exact h.1
theorem rB_sD {m : List Str} (h : mkOk m = true) (n : Nat) : rB (n + 1) (sD m) = true := by
  simp only [sD, rB, List.all_eq_true]
  intro d hd
  obtain ⟨s, hs, rfl⟩ := List.mem_map.mp hd
  exact rB_str (name_asc (mk_names h s hs))
theorem wtL_le (B : Nat) : ∀ {ds : List D}, (∀ d ∈ ds, wt d ≤ B) → wtL ds ≤ ds.length * (B + 2)
  | [], _ => by simp [wtL]
  | d :: ds, h => by
    have h1 := h d List.mem_cons_self
    have h2 := wtL_le B (ds := ds) fun x hx => h x (List.mem_cons_of_mem _ hx)
    simp only [wtL, List.length_cons, Nat.add_mul]
    omega
theorem wt_sD {m : List Str} (h : mkOk m = true) (hl : m.length < 64) : wt (sD m) ≤ 8000 := by
  have := wtL_le 122 (ds := m.map D.str) fun d hd => by
    obtain ⟨s, hs, rfl⟩ := List.mem_map.mp hd
    have := name_len (mk_names h s hs)
    simp only [wt]; omega
  simp only [sD, wt]
  rw [List.length_map] at this
  omega
theorem rB_eD {e : Ed} (h : okName e.2.1 = true) (h1 : e.1 < 60) (h2 : e.2.2 < 60) (n : Nat) : rB (n + 1) (eD e) = true := by
  have a1 : (0 : Int) ≤ (e.1 : Int) ∧ (e.1 : Int) < 1000000 := by omega
  have a2 : (0 : Int) ≤ (e.2.2 : Int) ∧ (e.2.2 : Int) < 1000000 := by omega
  have r1 : ∀ i : Int, 0 ≤ i ∧ i < 1000000 → rB n (.int i) = true := fun i hi => by cases n <;> exact decide_eq_true hi
  simp only [eD, rB, List.all_cons, List.all_nil, r1 _ a1, r1 _ a2, rB_str (name_asc h), Bool.and_self]
theorem wt_eD {e : Ed} (h : okName e.2.1 = true) : wt (eD e) ≤ 180 := by
  have := name_len h
  simp only [eD, wt, wtL]; omega
theorem shows_graph {u : Stt} (F : Fit u) (hE : u.2.length ≤ 400) : Shows (graphD u) := by
  refine shows (n := 3) ?_ (by decide) ?_
  · have h1 : rB 2 (.tup (mL u.1)) = true := by
      simp only [rB, List.all_eq_true]
      intro d hd
      obtain ⟨m, hm, rfl⟩ := List.mem_map.mp hd
      exact rB_sD (F.m m hm).1 0
    have h2 : rB 2 (.tup (eL u.2)) = true := by
      simp only [rB, List.all_eq_true]
      intro d hd
      obtain ⟨e, he, rfl⟩ := List.mem_map.mp hd
      exact rB_eD (F.e e he).1 (F.e e he).2.1 (F.e e he).2.2 0
    show (rB 2 (.tup (mL u.1)) && (rB 2 (.tup (eL u.2)) && true)) = true
    rw [h1, h2]; rfl
  · have w1 := wtL_le 8000 (ds := mL u.1) fun d hd => by
      obtain ⟨m, hm, rfl⟩ := List.mem_map.mp hd
      exact wt_sD (F.m m hm).1 (F.m m hm).2.2
    have w2 := wtL_le 180 (ds := eL u.2) fun d hd => by
      obtain ⟨e, he, rfl⟩ := List.mem_map.mp hd
      exact wt_eD (F.e e he).1
    have l1 : (mL u.1).length ≤ 60 := by simpa [mL] using F.ml
    have l2 : (eL u.2).length ≤ 400 := by simpa [eL] using hE
    simp only [graphD, wt, wtL]
    have := Nat.mul_le_mul_right 8002 l1
    have := Nat.mul_le_mul_right 182 l2
    omega
theorem shows_miss {n : Nat} (h : n < 1000000) (e : Bool) : Shows (.tup [.int (n : Int), missD e]) := by
  refine shows (n := 1) ?_ (by decide) ?_
  · have a1 : (0 : Int) ≤ (n : Int) ∧ (n : Int) < 1000000 := by omega
    have r1 : rB 0 (.int (n : Int)) = true := decide_eq_true a1
    have r2 : rB 0 (missD e) = true := by cases e <;> decide +kernel
    show (rB 0 (.int (n : Int)) && (rB 0 (missD e) && true)) = true
    rw [r1, r2]; rfl
  · have : wt (missD e) ≤ 100 := by cases e <;> decide +kernel
    simp only [wt, wtL]; omega
theorem readW_n : ∀ (ls : List (List Nat)) (i : Nat) (s : Stt) (n : Nat) (e : Bool), readW i s ls = .error (n, e) → n ≤ i + ls.length
  | [], i, s, n, e, h => by cases h
  | l :: ls, i, s, n, e, h => by
    unfold readW at h
    split at h
    · have := readW_n ls (i + 1) _ n e h
      simp only [List.length_cons]; omega
    · cases h
      simp only [List.length_cons]; omega
theorem text_right (S : Sto) {t : List Nat} (h : TextOk t) : x__law_is_text_right S [.str (mkS t)] = .ok (.bl true) S := by
  refine subK_ok (ok := argL) (S1 := []) (ds := [.str (mkS t)]) ?_ rfl rfl rfl
  have lr := law_read_ok [] h
  have cb := can_be_ok [] h
  have hd := heard_0 h
  refine body_rt (env := [some (.str (mkS t)), none, none, none, none, none]) rfl ?_
  unfold b__law_is_text_right
  cases q : readW 0 ([], []) (cutW 10 t) with
  | ok u =>
    obtain ⟨G, hn⟩ := readW_gd _ 0 ([], []) u gd0 h.all (.inl (cutW_ne 10 t)) q
    have lp := read_loop none (cutW 10 t) 0 ([], []) none none fit0 (by have := h.few; simpa using this) h.all
    rw [q] at lr cb hd lp
    obtain ⟨sh, s1, s2⟩ := shows_graph G.fit (Nat.le_of_lt lp.2.2)
    have lg := low_graphD u
    have l1 : subM x__law_read [] [.str (mkS t)] = .ok (.tup [.non, .non, graphD u]) [] := sub_pure [] lr rfl rfl (by simp [lowD, lowL, lg])
    have l2 : subM x_can_be_read_as_graph [] [.str (mkS t)] = .ok (.bl true) [] := sub_pure [] cb rfl rfl rfl
    have l3 : subM x__law_is_bool [] [.bl true, .bl true] = .ok (.bl true) [] := sub_pure [] (is_bool_ok [] true true) rfl rfl rfl
    have ho := hearsO (f := cap__law_is_text_right) (ms := consM (cloM 0) nilM) (env := [some (.str (mkS t)), some .non, some .non, some (graphD u), none, none]) (S := []) (k := 0) (js := [0]) (es := [.str (mkS t)]) rfl rfl rfl (by decide) rfl hd (by simp [lowD, lowL, lg]) rfl
    rw [seq_nx (env1 := [some (.str (mkS t)), some .non, some .non, some (graphD u), none, none]) (S1 := []) (by simp [l1])]
    rw [seq_nx (env1 := [some (.str (mkS t)), some .non, some .non, some (graphD u), some .non, some (graphD u)]) (S1 := []) (by
      unfold asgM
      rw [ho]; rfl)]
    rw [seq_nx (env1 := [some (.str (mkS t)), some .non, some .non, some (graphD u), some .non, some (graphD u)]) (S1 := []) (by simp [l2, l3, isG])]
    refine seq_rt ?_
    simp [isG, s1, s2]
  | error ne =>
    obtain ⟨n, e⟩ := ne
    rw [q] at lr cb hd
    have hn : n < 1000000 := by
      have := readW_n _ 0 _ n e q
      have := h.few
      omega
    obtain ⟨sh, s1, s2⟩ := shows_miss hn e
    have lm := low_missD e
    have l1 : subM x__law_read [] [.str (mkS t)] = .ok (.tup [.int (n : Int), missD e, .non]) [] := sub_pure [] lr rfl rfl (by simp [lowD, lowL, lm])
    have l2 : subM x_can_be_read_as_graph [] [.str (mkS t)] = .ok (.bl false) [] := sub_pure [] cb rfl rfl rfl
    have l3 : subM x__law_is_bool [] [.bl false, .bl false] = .ok (.bl true) [] := sub_pure [] (is_bool_ok [] false false) rfl rfl rfl
    have ho := hearsO (f := cap__law_is_text_right) (ms := consM (cloM 0) nilM) (env := [some (.str (mkS t)), some (.int (n : Int)), some (missD e), some .non, none, none]) (S := []) (k := 0) (js := [0]) (es := [.str (mkS t)]) rfl rfl rfl (by decide) rfl hd (by simp [lowD, lowL, lm]) rfl
    rw [seq_nx (env1 := [some (.str (mkS t)), some (.int (n : Int)), some (missD e), some .non, none, none]) (S1 := []) (by simp [l1])]
    rw [seq_nx (env1 := [some (.str (mkS t)), some (.int (n : Int)), some (missD e), some .non, some (.exc 3 (.tup [.int (n : Int), missD e])), some .non]) (S1 := []) (by
      unfold asgM
      rw [ho]; rfl)]
    rw [seq_nx (env1 := [some (.str (mkS t)), some (.int (n : Int)), some (missD e), some .non, some (.exc 3 (.tup [.int (n : Int), missD e])), some .non]) (S1 := []) (by simp [l2, l3, isG])]
    rw [seq_nx (env1 := [some (.str (mkS t)), some (.int (n : Int)), some (missD e), some .non, some (.exc 3 (.tup [.int (n : Int), missD e])), some .non]) (S1 := []) (by simp [isG])]
    simp [isxM, fldM, s1, s2]
end K25
end

section
set_option Elab.async false
set_option linter.all false
set_option maxRecDepth 100000
set_option maxHeartbeats 4000000
/-! Plain law of k25, part 13: a graph printed. -/
namespace K25
open PySem PySem.Spec DL
def nodeS (m : List Str) : Str := Txt.join (mkS [32]) ("node" :: m)
def numS (n : Nat) : Str := Str.ofString (toString ((n : Nat) : Int))
def edgeS (e : Ed) : Str := Txt.join (mkS [32]) ["edge", numS e.1, e.2.1, numS e.2.2]
def linesS (u : Stt) : List Str := u.1.map nodeS ++ u.2.map edgeS
def textS (u : Stt) : Str := Txt.join (mkS [10]) (linesS u)
/-- a drawn graph -/
structure Dn (u : Stt) : Prop where
  gd : Gd u
  ne : u.1 ≠ []
  fm : u.1.length ≤ 6
  fe : u.2.length ≤ 8
  m : ∀ x ∈ u.1, x.length ≤ 2 ∧ ∀ s ∈ x, s.length ≤ 5
  e : ∀ x ∈ u.2, x.2.1.length ≤ 5
theorem num_sg {n : Nat} (h : n < 10) : sg (numS n) = [48 + n] := (TL.tl_num n).trans (TL.numL_lt h)
theorem lit_node : sg ("node" : Str) = [110, 111, 100, 101] := by decide +kernel
theorem lit_edge : sg ("edge" : Str) = [101, 100, 103, 101] := by decide +kernel
theorem node_sg (m : List Str) : sg (nodeS m) = joinW 32 ([110, 111, 100, 101] :: m.map sg) := by
  unfold nodeS; rw [join_sg, List.map_cons, lit_node]
theorem edge_sg {e : Ed} (h1 : e.1 < 10) (h2 : e.2.2 < 10) : sg (edgeS e) = joinW 32 [[101, 100, 103, 101], [48 + e.1], sg e.2.1, [48 + e.2.2]] := by
  unfold edgeS; rw [join_sg]; simp only [List.map_cons, List.map_nil, lit_edge, num_sg h1, num_sg h2]
theorem join_mem {c x : Nat} : ∀ {ps : List (List Nat)}, x ∈ joinW c ps → x = c ∨ ∃ p ∈ ps, x ∈ p
  | [], h => by cases h
  | [p], h => .inr ⟨p, by simp, h⟩
  | p :: q :: r, h => by
    have h : x ∈ p ++ c :: joinW c (q :: r) := h
    rcases List.mem_append.mp h with z | z
    · exact .inr ⟨p, by simp, z⟩
    · rcases List.mem_cons.mp z with z | z
      · exact .inl z
      · rcases join_mem z with w | ⟨s, hs, w⟩
        · exact .inl w
        · exact .inr ⟨s, List.mem_cons_of_mem _ hs, w⟩
theorem join_len {c B : Nat} : ∀ {ps : List (List Nat)}, (∀ p ∈ ps, p.length ≤ B) → (joinW c ps).length ≤ ps.length * (B + 1)
  | [], _ => by simp [joinW]
  | [p], h => by have := h p (by simp); simp [joinW]; omega
  | p :: q :: r, h => by
    have h1 := h p (by simp)
    have h2 := join_len (c := c) (ps := q :: r) fun x hx => h x (List.mem_cons_of_mem _ hx)
    show (p ++ c :: joinW c (q :: r)).length ≤ _
    simp only [List.length_append, List.length_cons, Nat.add_mul] at h2 ⊢
    omega
theorem letters_rng : ∀ c ∈ ("abcdefghijklmnopqrstuvwxyz" : Str).cps.toList, 97 ≤ c ∧ c ≤ 122 := by decide +kernel
theorem name_rng {s : Str} (h : okName s = true) : ∀ c ∈ sg s, 97 ≤ c ∧ c ≤ 122 := fun c hc => by
  simp only [okName, Bool.and_eq_true, nameC, List.all_eq_true, decide_eq_true_eq] at h
  exact letters_rng c (h.2 c hc)
theorem wds_node {m : List Str} (h : ∀ s ∈ m, okName s = true) : wds (sg (nodeS m)) = ("node" : Str) :: m := by
  unfold wds
  rw [node_sg, cut_join_free 32 (by simp) (fun p hp => ?_)]
  · rw [List.map_cons, List.map_map, ← lit_node]
    have e : m.map (mkS ∘ sg) = m := List.map_id'' (fun _ => rfl) m
    rw [e]; rfl
  · rcases List.mem_cons.mp hp with rfl | hp
    · decide
    · obtain ⟨s, hs, rfl⟩ := List.mem_map.mp hp
      intro hc
      have := name_rng (h s hs) 32 hc
      omega
theorem wds_edge {e : Ed} (h : okName e.2.1 = true) (h1 : e.1 < 10) (h2 : e.2.2 < 10) : wds (sg (edgeS e)) = [("edge" : Str), mkS [48 + e.1], e.2.1, mkS [48 + e.2.2]] := by
  unfold wds
  rw [edge_sg h1 h2, cut_join_free 32 (by simp) (fun p hp => ?_)]
  · simp only [List.map_cons, List.map_nil, mk_sg]
    rw [← lit_edge]; rfl
  · simp only [List.mem_cons, List.not_mem_nil, or_false] at hp
    rcases hp with rfl | rfl | rfl | rfl
    · decide
    · simp; omega
    · intro hc
      have := name_rng h 32 hc
      omega
    · simp; omega
theorem numW_one {n : Nat} (h : n < 10) : numW (mkS [48 + n]) = some n := by
  have hd : 48 + n ∈ digs := mem_digs.mpr (by omega)
  have hv : NumText.digitsVal (sg (mkS [48 + n])) = n := by simp [NumText.digitsVal]
  unfold numW
  rw [if_pos ⟨by simp, by simp, fun c hc => by simp at hc; subst hc; exact hd, .inl (by simp)⟩, hv]
theorem ris_at : ∀ (b : List Ed) (l x : Ed) (r : List Ed), risE (b ++ l :: x :: r) = true → tlt (keyE l) (keyE x) = true
  | [], l, x, r, h => by simp [risE] at h; exact h.1
  | [a], l, x, r, h => by simp [risE] at h; exact h.2.1
  | a :: c :: b, l, x, r, h => ris_at (c :: b) l x r (by simp [risE] at h ⊢; exact h.2)
theorem edgeW_one {e : Ed} (h : okName e.2.1 = true) (h1 : e.1 < 10) (h2 : e.2.2 < 10) : edgeW [("edge" : Str), mkS [48 + e.1], e.2.1, mkS [48 + e.2.2]] = some e := by
  simp only [edgeW, h, if_true, numW_one h1, numW_one h2]
theorem read_edges (ms : List (List Str)) (hm : ms.length ≤ 6) : ∀ (r : List Ed) (p : List Ed) (i : Nat), risE (p ++ r) = true → (∀ e ∈ r, okName e.2.1 = true ∧ e.1 < ms.length ∧ e.2.2 < ms.length) → readW i (ms, p) (r.map fun e => sg (edgeS e)) = .ok (ms, p ++ r)
  | [], p, i, _, _ => by simp [readW]
  | e :: r, p, i, h, hr => by
    obtain ⟨q1, q2, q3⟩ := hr e List.mem_cons_self
    have hU : upTo p e = true := by
      rcases List.eq_nil_or_concat p with hn | ⟨b, l, hn⟩
      · rw [hn]; rfl
      · rw [List.concat_eq_append] at hn
        unfold upTo
        rw [hn] at h ⊢
        simp only [List.getLast?_append, List.getLast?_singleton, Option.some_or]
        exact ris_at b l e r (by simpa using h)
    have hne : ¬ (("edge" : Str) = "node" ∧ p = []) := fun z => absurd z.1 (by decide +kernel)
    have hrow : rowW (ms, p) [("edge" : Str), mkS [48 + e.1], e.2.1, mkS [48 + e.2.2]] = some (ms, p ++ [e]) := by
      simp only [rowW]
      rw [if_neg hne, if_pos trivial, edgeW_one q1 (by omega) (by omega)]
      simp only []
      rw [if_pos ⟨⟨q2, q3⟩, hU⟩]
    rw [List.map_cons]
    unfold readW
    rw [wds_edge q1 (by omega) (by omega), hrow]
    have := read_edges ms hm r (p ++ [e]) (i + 1) (by simpa using h) fun x hx => hr x (List.mem_cons_of_mem _ hx)
    simpa using this
theorem read_nodes : ∀ (r : List (List Str)) (p : List (List Str)) (i : Nat) (rest : List (List Nat)), (p ++ r).length ≤ 60 → (∀ m ∈ r, mkOk m = true) → readW i (p, []) (r.map (fun m => sg (nodeS m)) ++ rest) = readW (i + r.length) (p ++ r, []) rest
  | [], p, i, rest, _, _ => by simp
  | m :: r, p, i, rest, h, hr => by
    have q := hr m List.mem_cons_self
    have hrow : rowW (p, []) (("node" : Str) :: m) = some (p ++ [m], []) := by
      simp only [rowW]
      rw [if_pos ⟨trivial, trivial⟩, if_pos ⟨q, by simp at h; omega⟩]
    rw [List.map_cons, List.cons_append]
    show readW i (p, []) (sg (nodeS m) :: (r.map (fun m => sg (nodeS m)) ++ rest)) = _
    rw [readW, wds_node (mk_names q), hrow]
    have := read_nodes r (p ++ [m]) (i + 1) rest (by simpa using h) fun x hx => hr x (List.mem_cons_of_mem _ hx)
    show readW (i + 1) (p ++ [m], []) (r.map (fun m => sg (nodeS m)) ++ rest) = _
    rw [this]
    simp only [List.length_cons, List.append_assoc, List.singleton_append]
    congr 1
    omega
section
variable {u : Stt} (H : Dn u)
include H
theorem Dn.line : ∀ l ∈ (linesS u).map sg, l.length ≤ 25 ∧ (∀ c ∈ l, c < 128) ∧ 10 ∉ l := by
  intro l hl
  obtain ⟨s, hs, rfl⟩ := List.mem_map.mp hl
  rcases List.mem_append.mp hs with z | z
  · obtain ⟨m, hm, rfl⟩ := List.mem_map.mp z
    have hk := mk_names (H.gd.fit.m m hm).1
    rw [node_sg]
    refine ⟨?_, fun c hc => ?_, fun hc => ?_⟩
    · have := join_len (c := 32) (B := 5) (ps := [110, 111, 100, 101] :: m.map sg) fun p hp => by
        rcases List.mem_cons.mp hp with rfl | hp
        · decide
        · obtain ⟨s, hs, rfl⟩ := List.mem_map.mp hp
          rw [← len_sg]; exact (H.m m hm).2 s hs
      have h2 := (H.m m hm).1
      simp at this
      omega
    · rcases join_mem hc with z | ⟨p, hp, z⟩
      · omega
      · rcases List.mem_cons.mp hp with rfl | hp
        · simp at z; omega
        · obtain ⟨s, hs, rfl⟩ := List.mem_map.mp hp
          have := name_rng (hk s hs) c z
          omega
    · rcases join_mem hc with z | ⟨p, hp, z⟩
      · omega
      · rcases List.mem_cons.mp hp with rfl | hp
        · simp at z
        · obtain ⟨s, hs, rfl⟩ := List.mem_map.mp hp
          have := name_rng (hk s hs) 10 z
          omega
  · obtain ⟨e, he, rfl⟩ := List.mem_map.mp z
    have hk := (H.gd.fit.e e he).1
    have hi := H.gd.inn e he
    have hf := H.fm
    rw [edge_sg (by omega) (by omega)]
    refine ⟨?_, fun c hc => ?_, fun hc => ?_⟩
    · have h2 : e.2.1.cps.size ≤ 5 := H.e e he
      simp [joinW]; omega
    · rcases join_mem hc with z | ⟨p, hp, z⟩
      · omega
      · simp only [List.mem_cons, List.not_mem_nil, or_false] at hp
        rcases hp with rfl | rfl | rfl | rfl
        · simp at z; omega
        · simp at z; omega
        · have := name_rng hk c z; omega
        · simp at z; omega
    · rcases join_mem hc with z | ⟨p, hp, z⟩
      · omega
      · simp only [List.mem_cons, List.not_mem_nil, or_false] at hp
        rcases hp with rfl | rfl | rfl | rfl
        · simp at z
        · simp at z; omega
        · have := name_rng hk 10 z; omega
        · simp at z; omega
theorem Dn.cut : cutW 10 (sg (textS u)) = (linesS u).map sg := by
  unfold textS
  rw [join_sg, cut_join_free 10 ?_ fun l hl => (H.line l hl).2.2]
  intro z
  have := H.ne
  simp [linesS] at z
  exact this z.1
theorem Dn.textOk : TextOk (sg (textS u)) := by
  have hc := H.cut
  have h14 : ((linesS u).map sg).length ≤ 14 := by
    have := H.fm
    have := H.fe
    simp [linesS]; omega
  refine ⟨fun c h => ?_, ?_, by rw [hc]; omega, fun l hl => ?_⟩
  · unfold textS at h
    rw [join_sg] at h
    rcases join_mem h with z | ⟨p, hp, z⟩
    · omega
    · exact (H.line p hp).2.1 c z
  · unfold textS
    rw [join_sg]
    have := join_len (c := 10) (B := 25) fun p hp => (H.line p hp).1
    omega
  · rw [hc] at hl
    have := (H.line l hl).1
    omega
theorem Dn.read : readW 0 ([], []) (cutW 10 (sg (textS u))) = .ok u := by
  rw [H.cut]
  unfold linesS
  rw [List.map_append, List.map_map, List.map_map]
  have hm := H.fm
  have := read_nodes u.1 [] 0 (u.2.map (sg ∘ edgeS)) (by simp; omega) fun m h => (H.gd.fit.m m h).1
  rw [show u.1.map (sg ∘ nodeS) = u.1.map fun m => sg (nodeS m) from rfl, this]
  exact read_edges u.1 H.fm u.2 [] _ (by simpa using H.gd.ris) fun e h => ⟨(H.gd.fit.e e h).1, H.gd.inn e h⟩
theorem Dn.read_graph (S : Sto) : x_read_graph S [.str (textS u)] = .ok (graphD u) S := by
  have := read_graph_ok S H.textOk
  rw [H.read] at this
  exact this
end
end K25
end

section
set_option Elab.async false
set_option linter.all false
set_option maxRecDepth 100000
set_option maxHeartbeats 4000000
/-! Plain law of k25, part 14: print_graph, the law's own lines. -/
namespace K25
open PySem PySem.Spec DL
def small (B : Nat) (ys : List Str) : Prop := (∀ y ∈ ys, y.length ≤ B) ∧ ys.length * (B + 1) ≤ 1000000
theorem sum_le (B : Nat) : ∀ {ys : List Str}, (∀ y ∈ ys, y.length ≤ B) → (ys.map (·.length)).sum ≤ ys.length * B
  | [], _ => by simp
  | y :: ys, h => by
    have h1 := h y List.mem_cons_self
    have h2 := sum_le B (ys := ys) fun x hx => h x (List.mem_cons_of_mem _ hx)
    simp only [List.map_cons, List.sum_cons, List.length_cons, Nat.add_mul]
    omega
theorem join_ok {S : Sto} {c B : Nat} {ys : List Str} (h : small B ys) : joinG S (mkS [c]) (.lst (ys.map D.str)) = .ok (.str (Txt.join (mkS [c]) ys)) S ∧ joinG S (mkS [c]) (.tup (ys.map D.str)) = .ok (.str (Txt.join (mkS [c]) ys)) S := by
  have h1 := sum_le B h.1
  have h2 := h.2
  have hz : (ys.map (·.length)).sum + ys.length * (mkS [c]).length ≤ 16777216 := by
    rw [Nat.mul_add] at h2
    simp only [len_mk, List.length_cons, List.length_nil]
    omega
  have a1 : asStrs S (.lst (ys.map D.str)) = some ys := by simp [asStrs, strsOf_map]
  have a2 : asStrs S (.tup (ys.map D.str)) = some ys := by simp [asStrs, strsOf_map]
  exact ⟨by simp only [joinG, a1, if_pos hz], by simp only [joinG, a2, if_pos hz]⟩
theorem str_int (S : Sto) {n : Nat} (h : n < 60) : strCG S [.int (n : Int)] = .ok (.str (numS n)) S := by
  have : ((n : Int)).natAbs.log2 < 1920 := by
    rw [Int.natAbs_natCast]
    by_cases z : n = 0
    · rw [z]; decide
    · have := (Nat.log2_lt z).mpr (show n < 2 ^ 6 by rw [show (2 : Nat) ^ 6 = 64 by decide]; omega)
      omega
  simp only [strCG, if_pos this]
  rfl
abbrev T3 : D → Option (List D) := tupT (moreT nameT (moreT nameT (moreT nameT noT)))
def nodeE : En → Sto → R D := sm1 joinG (cM (.str " ")) (frzM (lstM (consM (cM (.str "node")) (starM (varM 2) nilM))))
def edgeE : En → Sto → R D := sm1 joinG (cM (.str " ")) (frzM (lstM (consM (cM (.str "edge")) (consM (callM strCG (consM (varM 3) nilM)) (consM (varM 4) (consM (callM strCG (consM (varM 5) nilM)) nilM))))))
theorem small_node {m : List Str} (h : m.length ≤ 2 ∧ ∀ s ∈ m, s.length ≤ 5) : small 5 (("node" : Str) :: m) := by
  refine ⟨fun y hy => ?_, by simp; omega⟩
  rcases List.mem_cons.mp hy with rfl | hy
  · decide
  · exact h.2 y hy
theorem num_len {n : Nat} (h : n < 10) : (numS n).length = 1 := by rw [len_sg, num_sg h]; rfl
theorem small_edge {e : Ed} (h : e.2.1.length ≤ 5) (h1 : e.1 < 10) (h2 : e.2.2 < 10) : small 5 [("edge" : Str), numS e.1, e.2.1, numS e.2.2] := by
  refine ⟨fun y hy => ?_, by simp⟩
  simp only [List.mem_cons, List.not_mem_nil, or_false] at hy
  rcases hy with rfl | rfl | rfl | rfl
  · decide
  · rw [num_len h1]; decide
  · exact h
  · rw [num_len h2]; decide
section
variable {u : Stt} (H : Dn u)
include H
theorem Dn.lens : ∀ s ∈ linesS u, s.length ≤ 25 := fun s hs => by
  rw [len_sg]; exact (H.line (sg s) (List.mem_map.mpr ⟨s, hs, rfl⟩)).1
theorem Dn.few : (linesS u).length ≤ 14 := by
  have := H.fm
  have := H.fe
  simp [linesS]; omega
theorem node_lc (env : En) (S : Sto) (mi : En → Sto → R Wk) (me : En → Sto → R D) (hi : mi env S = .ok (.seq (mL u.1)) S) (hme : ∀ x ∈ u.1, me ((env.set 2 none).set 2 (some (sD x))) S = .ok (.str (nodeS x)) S) : lcM mi [2] [2] nameT tYesM me env S = .ok ((u.1.map nodeS).map D.str) S := by
  have e := lcM_map (S0 := S) (S := S) (env := env) (mi := mi) (j := 2) (me := me) (ds := mL u.1) (fun d => match d with | .tup ds => (match strsOf ds with | some ks => .str (nodeS ks) | none => .non) | _ => .non) hi (fun d hd => by
    obtain ⟨x, hx, rfl⟩ := List.mem_map.mp hd
    rw [hme x hx]
    simp [sD, strsOf_map]) (by have := H.fm; simp [mL]; omega)
  rw [e]
  congr 1
  simp only [mL, List.map_map]
  refine List.map_congr_left fun x _ => ?_
  simp [sD, strsOf_map]
theorem edge_lc (env : En) (S : Sto) (mi : En → Sto → R Wk) (me : En → Sto → R D) (hi : mi env S = .ok (.seq (eL u.2)) S) (hme : ∀ x ∈ u.2, me (setE (wipeE env [3, 4, 5]) [3, 4, 5] [.int (x.1 : Int), .str x.2.1, .int (x.2.2 : Int)]) S = .ok (.str (edgeS x)) S) : lcM mi [3, 4, 5] [3, 4, 5] T3 tYesM me env S = .ok ((u.2.map edgeS).map D.str) S := by
  have e := lcM_pure (S0 := S) (S := S) (env := env) (own := [3, 4, 5]) (is := [3, 4, 5]) (T := T3) (mt := tYesM) (me := me) (mi := mi) (ds := eL u.2) (fun _ => true)
    (fun d => match d with | .tup [.int a, .str s, .int b] => .str (edgeS (a.toNat, s, b.toNat)) | _ => .non) hi (fun d hd => by
      obtain ⟨x, hx, rfl⟩ := List.mem_map.mp hd
      exact ⟨[.int (x.1 : Int), .str x.2.1, .int (x.2.2 : Int)], rfl, rfl, fun _ => hme x hx⟩) (by have := H.fe; simp [eL]; omega)
  rw [List.filter_eq_self.mpr fun _ _ => rfl] at e
  rw [e]
  congr 1
  simp only [eL, List.map_map]
  exact List.map_congr_left fun x _ => rfl
theorem Dn.told_lines (S : Sto) : x_told_lines S [graphD u] = .ok (.lst ((linesS u).map D.str)) S := by
  have i0 : ∀ S, idxG S (graphD u) (.int 0) = .ok (.tup (mL u.1)) S := fun S => rfl
  have i1 : ∀ S, idxG S (graphD u) (.int 1) = .ok (.tup (eL u.2)) S := fun S => rfl
  have hb : b_told_lines = seqM (setM 1 (ownM (lcM (seqI (op2M idxG (varM 0) (cM (.int 0)))) [2] [2] nameT tYesM nodeE)))
      (seqM (expM (extM (varM 1) (frzM (lcM (seqI (op2M idxG (varM 0) (cM (.int 1)))) [3, 4, 5] [3, 4, 5] T3 tYesM edgeE)))) (retM (varM 1))) := rfl
  have e1 := node_lc H [some (graphD u), none, none, none, none, none] [] (seqI (op2M idxG (varM 0) (cM (.int 0)))) nodeE (by simp [i0, walkO]) (fun x hx => by
    have sm := small_node (H.m x hx)
    have j := (join_ok (S := []) (c := 32) sm).1
    have h3 : (([D.str "node"] ++ (x.map D.str) ++ []).length) ≤ sizeLine := by have := (H.m x hx).1; simp; omega
    simp only [nodeE, sm1, l_cM, R.bind_ok, l_frzM, l_lstM, l_consM, starM, l_varM, List.set_cons_succ, List.set_cons_zero, List.getElem?_cons_succ, List.getElem?_cons_zero, sD, asS_tup, l_nilM, List.append_nil]
    rw [if_pos (by have := (H.m x hx).1; simp; omega)]
    rw [blank_lit]
    exact j)
  have e2 := edge_lc H [some (graphD u), some (.ref 0), none, none, none, none] [.lst ((u.1.map nodeS).map D.str)] (seqI (op2M idxG (varM 0) (cM (.int 1)))) edgeE (by simp [i1, walkO]) (fun x hx => by
    have hi := H.gd.inn x hx
    have hf := H.fm
    have sm := small_edge (H.e x hx) (by omega) (by omega)
    have j := (join_ok (S := [.lst ((u.1.map nodeS).map D.str)]) (c := 32) sm).1
    have s1 := str_int [.lst ((u.1.map nodeS).map D.str)] (n := x.1) (by omega)
    have s2 := str_int [.lst ((u.1.map nodeS).map D.str)] (n := x.2.2) (by omega)
    generalize ([.lst ((u.1.map nodeS).map D.str)] : Sto) = S at j s1 s2 ⊢
    simp only [wipeE, l_setE, l_setE0, List.set_cons_succ, List.set_cons_zero]
    have h4 : ([D.str "edge", .str (numS x.1), .str x.2.1, .str (numS x.2.2)] : List D).length ≤ sizeLine := by simp
    simp only [edgeE, sm1, l_cM, R.bind_ok, l_frzM, l_lstM, l_consM, l_callM, l_varM, List.getElem?_cons_succ, List.getElem?_cons_zero, l_nilM, s1, s2, if_pos h4]
    rw [blank_lit]
    exact j)
  have e3 := frz_eq e2
  have e4 : ownM (lcM (seqI (op2M idxG (varM 0) (cM (.int 0)))) [2] [2] nameT tYesM nodeE) [some (graphD u), none, none, none, none, none] [] = .ok (.ref 0) [.lst ((u.1.map nodeS).map D.str)] := by
    simp only [l_ownM, e1, R.bind_ok]; rfl
  have ex : ext1 [.lst ((u.1.map nodeS).map D.str)] 0 (.lst ((u.2.map edgeS).map D.str)) = .ok .non [.lst ((linesS u).map D.str)] := by
    rw [ext_ok (l := (u.1.map nodeS).map D.str) (es := (u.2.map edgeS).map D.str) rfl rfl (by have := H.fm; have := H.fe; simp; omega)]
    simp [linesS]
  refine subK_own (ok := argL) (S1 := [.lst ((linesS u).map D.str)]) (n := 0) (ds := [graphD u]) ?_ rfl (lowL_strs _) rfl (by simp [argL, low_graphD])
  refine body_rt (env := [some (graphD u), none, none, none, none, none]) rfl ?_
  rw [hb]
  rw [seq_nx (env1 := [some (graphD u), some (.ref 0), none, none, none, none]) (S1 := [.lst ((u.1.map nodeS).map D.str)]) (by unfold setM; rw [e4]; rfl)]
  rw [seq_nx (env1 := [some (graphD u), some (.ref 0), none, none, none, none]) (S1 := [.lst ((linesS u).map D.str)]) (by
    have hr : recv [.lst ((u.1.map nodeS).map D.str)] (.ref 0) = some 0 := rfl
    simp only [l_expM, l_extM, l_recvM, l_varM, List.getElem?_cons_succ, List.getElem?_cons_zero, R.bind_ok, hr, e3, ex, l_R_st])]
  rfl
theorem Dn.print (S : Sto) : x_print_graph S [graphD u] = .ok (.str (textS u)) S := by
  refine subK_ok (ok := argL) (S1 := []) (ds := [graphD u]) ?_ rfl (by simp [argL, low_graphD]) rfl
  have lk := look_ok [] u H.gd H.ne (by have := H.fe; omega)
  have tl := H.told_lines []
  have j := (join_ok (S := []) (c := 10) (B := 25) (ys := linesS u) ⟨H.lens, by have := H.few; omega⟩).1
  rw [← nl_lit] at j
  refine body_rt (env := [some (graphD u)]) rfl ?_
  unfold b_print_graph
  rw [seq_nx (env1 := [some (graphD u)]) (S1 := []) (by simp only [l_expM, l_callM, l_consM, l_varM, List.getElem?_cons_zero, R.bind_ok, l_nilM, lk, l_R_st])]
  simp only [l_retM, sm1, l_cM, R.bind_ok, l_callM, l_consM, l_varM, List.getElem?_cons_zero, l_nilM, tl, j, l_R_st]
  rw [nl_lit]; rfl
end
end K25
end

section
set_option Elab.async false
set_option linter.all false
set_option maxRecDepth 100000
set_option maxHeartbeats 4000000
/-! Plain law of k25, part 15: the law's lines; drawn graphs. -/
namespace K25
open PySem PySem.Spec DL
theorem lit_edge5 : sg ("edge " : Str) = [101, 100, 103, 101, 32] := by decide +kernel
theorem add_str (S : Sto) {a b : Str} (h : a.length + b.length ≤ 1000) : addA S (.str a) (.str b) = .ok (.str (a ++ b)) S := by
  have hz : a.length + b.length ≤ sizeLine := by simp; omega
  simp only [addA, asX, addG, if_pos hz]
theorem app_len (a b : Str) : (a ++ b).length = a.length + b.length := by rw [len_sg, sg_app, List.length_append, ← len_sg, ← len_sg]
def nodeL : En → Sto → R D := sm1 joinG (cM (.str " ")) (op2M addA (tupM (consM (cM (.str "node")) nilM)) (varM 2))
def edgeL : En → Sto → R D := op2M addA (op2M addA (op2M addA (op2M addA (op2M addA (cM (.str "edge ")) (callM strCG (consM (varM 3) nilM))) (cM (.str " "))) (varM 4)) (cM (.str " "))) (callM strCG (consM (varM 5) nilM))
theorem edge_text {e : Ed} (h1 : e.1 < 10) (h2 : e.2.2 < 10) : ((((("edge " : Str) ++ numS e.1) ++ " ") ++ e.2.1) ++ " ") ++ numS e.2.2 = edgeS e := by
  refine sg_inj ?_
  rw [edge_sg h1 h2]
  simp only [sg_app, lit_edge5, num_sg h1, num_sg h2, blank_lit, sg_mk, joinW]
  simp
theorem Dn.law_lines {u : Stt} (H : Dn u) (S : Sto) : x__law_lines S [graphD u] = .ok (.lst ((linesS u).map D.str)) S := by
  have i0 : ∀ S, idxG S (graphD u) (.int 0) = .ok (.tup (mL u.1)) S := fun S => rfl
  have i1 : ∀ S, idxG S (graphD u) (.int 1) = .ok (.tup (eL u.2)) S := fun S => rfl
  have hb : b__law_lines = seqM (setM 1 (frzM (lcM (seqI (op2M idxG (varM 0) (cM (.int 0)))) [2] [2] nameT tYesM nodeL)))
      (retM (op2M addA (varM 1) (frzM (lcM (seqI (op2M idxG (varM 0) (cM (.int 1)))) [3, 4, 5] [3, 4, 5] T3 tYesM edgeL)))) := rfl
  have e1 := node_lc H [some (graphD u), none, none, none, none, none] [] (seqI (op2M idxG (varM 0) (cM (.int 0)))) nodeL (by simp [i0, walkO]) (fun x hx => by
    have sm := small_node (H.m x hx)
    have j := (join_ok (S := []) (c := 32) sm).2
    have h1 : ([D.str "node"] : List D).length + (x.map D.str).length ≤ sizeLine := by have := (H.m x hx).1; simp; omega
    have ad : addA [] (.tup [.str "node"]) (sD x) = .ok (.tup ((("node" : Str) :: x).map D.str)) [] := by
      show addG [] (.tup [.str "node"]) (.tup (x.map D.str)) = _
      simp only [addG, if_pos h1]; rfl
    simp only [nodeL, sm1, l_cM, R.bind_ok, l_op2M, l_tupM, l_consM, l_nilM, l_varM, List.set_cons_succ, List.set_cons_zero, List.getElem?_cons_succ, List.getElem?_cons_zero]
    rw [if_pos (by simp)]
    simp only [R.bind_ok, ad]
    rw [blank_lit]
    exact j)
  have e2 := edge_lc H [some (graphD u), some (.lst ((u.1.map nodeS).map D.str)), none, none, none, none] [] (seqI (op2M idxG (varM 0) (cM (.int 1)))) edgeL (by simp [i1, walkO]) (fun x hx => by
    have hi := H.gd.inn x hx
    have hf := H.fm
    have he := H.e x hx
    have n1 := num_len (n := x.1) (by omega)
    have n2 := num_len (n := x.2.2) (by omega)
    have s1 := str_int [] (n := x.1) (by omega)
    have s2 := str_int [] (n := x.2.2) (by omega)
    have b1 : ("edge " : Str).length = 5 := by decide
    have b2 : (" " : Str).length = 1 := by decide
    simp only [wipeE, l_setE, l_setE0, List.set_cons_succ, List.set_cons_zero]
    simp only [edgeL, l_op2M, l_cM, R.bind_ok, l_callM, l_consM, l_varM, List.getElem?_cons_succ, List.getElem?_cons_zero, l_nilM, s1, s2]
    rw [add_str [] (by omega)]
    simp only [R.bind_ok]
    rw [add_str [] (by rw [app_len]; omega)]
    simp only [R.bind_ok]
    rw [add_str [] (by simp only [app_len]; omega)]
    simp only [R.bind_ok]
    rw [add_str [] (by simp only [app_len]; omega)]
    simp only [R.bind_ok, s2]
    rw [add_str [] (by simp only [app_len]; omega)]
    rw [edge_text (by omega) (by omega)])
  refine subK_ok (ok := argL) (S1 := []) (ds := [graphD u]) ?_ rfl (by simp [argL, low_graphD]) (lowL_strs _)
  refine body_rt (env := [some (graphD u), none, none, none, none, none]) rfl ?_
  rw [hb]
  rw [seq_nx (env1 := [some (graphD u), some (.lst ((u.1.map nodeS).map D.str)), none, none, none, none]) (S1 := []) (by unfold setM; rw [frz_eq e1]; rfl)]
  have ad : addA [] (.lst ((u.1.map nodeS).map D.str)) (.lst ((u.2.map edgeS).map D.str)) = .ok (.lst ((linesS u).map D.str)) [] := by
    have h1 : ((u.1.map nodeS).map D.str).length + ((u.2.map edgeS).map D.str).length ≤ sizeLine := by have := H.fm; have := H.fe; simp; omega
    unfold addA
    simp only [asX_lst, if_pos h1, linesS, List.map_append]
  simp only [l_retM, l_op2M, l_varM, List.getElem?_cons_succ, List.getElem?_cons_zero, R.bind_ok, frz_eq e2, ad, l_R_st]
/-! ### what is drawn -/
theorem sizeLine_ge' {n : Nat} (h : n < 1000000) : n < sizeLine := by
  have : (1000000 : Nat) ≤ sizeLine := by decide
  omega
theorem lcL_t {env0 : En} {is : List Nat} {T : D → Option (List D)} {mt : En → Sto → R Bool} {me : En → Sto → R D} {d y : D} {ds acc xs : List D} {S S1 S2 : Sto} (h1 : T d = some xs) (h2 : mt (setE env0 is xs) S = .ok true S1) (h3 : me (setE env0 is xs) S1 = .ok y S2) (h4 : acc.length < sizeLine) : lcL env0 is T mt me (d :: ds) acc S = lcL env0 is T mt me ds (acc ++ [y]) S2 := by
  show (match T d with | none => R.stuck | some xs => _) = _
  rw [h1]
  simp only [h2, R.go, if_true, h3, if_pos h4]
theorem lcL_f {env0 : En} {is : List Nat} {T : D → Option (List D)} {mt : En → Sto → R Bool} {me : En → Sto → R D} {d : D} {ds acc xs : List D} {S S1 : Sto} (h1 : T d = some xs) (h2 : mt (setE env0 is xs) S = .ok false S1) : lcL env0 is T mt me (d :: ds) acc S = lcL env0 is T mt me ds acc S1 := by
  show (match T d with | none => R.stuck | some xs => _) = _
  rw [h1]
  simp [h2, R.go]
theorem pick_loop (a : Option D) : ∀ (ws : List Str) (p : List D) (k : Nat) (acc : List D), potOk k p → k + ws.length ≤ 1000000 → acc.length + ws.length ≤ 1000 →
    ∃ (us : List Str) (p' : List D), lcL [some (.ref 0), a, none] [2] nameT (cmpB eqG (callM x__law_take (consM (varM 0) (consM (cM (.int 2)) nilM))) (cM (.int 0))) (varM 2) (ws.map D.str) acc [.lst p] = .ok (acc ++ us.map D.str) [.lst p'] ∧ potOk (k + ws.length) p' ∧ us.Sublist ws
  | [], p, k, acc, hp, hk, ha => ⟨[], p, by simp [lcL], hp, .slnil⟩
  | w :: ws, p, k, acc, hp, hk, ha => by
    simp only [List.length_cons] at hk ha
    obtain ⟨d, p1, ⟨t, rfl, ht⟩, e2, e3⟩ := take_ok 2 (by decide) (by decide) [.lst p] 0 p k rfl hp (by omega)
    simp only [List.set_cons_zero] at e3
    have e3 : x__law_take [.lst p] [.ref 0, .int 2] = .ok (.int (t : Int)) [.lst p1] := e3
    have hc : cmpB eqG (callM x__law_take (consM (varM 0) (consM (cM (.int 2)) nilM))) (cM (.int 0)) [some (.ref 0), a, some (.str w)] [.lst p] = .ok ((t : Int) == 0) [.lst p1] := by simp [e3]
    cases ht0 : ((t : Int) == 0) with
    | true =>
      rw [ht0] at hc
      obtain ⟨us, p', r1, r2, r3⟩ := pick_loop a ws p1 (k + 1) (acc ++ [.str w]) e2 (by omega) (by simp; omega)
      refine ⟨w :: us, p', ?_, r2.le (by simp; omega), .cons₂ _ r3⟩
      rw [List.map_cons, lcL_t (T := nameT) (xs := [.str w]) (S1 := [.lst p1]) (S2 := [.lst p1]) (y := .str w) rfl hc rfl (sizeLine_ge' (by omega)), r1]
      simp
    | false =>
      rw [ht0] at hc
      obtain ⟨us, p', r1, r2, r3⟩ := pick_loop a ws p1 (k + 1) acc e2 (by omega) (by omega)
      refine ⟨us, p', ?_, r2.le (by simp; omega), .cons _ r3⟩
      rw [List.map_cons, lcL_f (T := nameT) (xs := [.str w]) (S1 := [.lst p1]) rfl hc, r1]
theorem marks_drawn (nm : List Str) (hl : nm.length ≤ 1000) : PT x__law_marks_drawn [.lst (nm.map D.str)] nm.length (fun d => ∃ m : List Str, d = sD m ∧ m.Sublist nm) := by
  refine PT.body' rfl (by simp [strs_argL]) fun p k hp hk => ?_
  obtain ⟨us, p', r1, r2, r3⟩ := pick_loop (some (.lst (nm.map D.str))) nm p k [] hp hk (by simpa using hl)
  refine ⟨sD us, [.lst p'], p', ?_, rfl, r2, ⟨us, rfl, r3⟩, low_sD us⟩
  have e : lcM (seqI (varM 1)) [2] [2] nameT (cmpB eqG (callM x__law_take (consM (varM 0) (consM (cM (.int 2)) nilM))) (cM (.int 0))) (varM 2) [some (.ref 0), some (.lst (nm.map D.str)), none] [.lst p] = .ok (us.map D.str) [.lst p'] := by
    unfold lcM
    have hi : seqI (varM 1) [some (.ref 0), some (.lst (nm.map D.str)), none] [.lst p] = .ok (.seq (nm.map D.str)) [.lst p] := rfl
    rw [hi, R.bind_ok]
    refine (lcK_seq (all := nm.map D.str) (nm.map D.str) 0 [] [.lst p] rfl).trans ?_
    exact r1
  refine body_rt (env := [some (.ref 0), some (.lst (nm.map D.str)), none]) rfl ?_
  unfold b__law_marks_drawn
  simp only [l_retM, l_callM, l_consM, frz_eq e, R.bind_ok, l_nilM, tupC_lst, l_R_st]
  rfl
def nms : List Str := ["a", "bc"]
def lbs : List Str := ["x", "knows"]
theorem rows_loop (v1 v2 v3 v5 v6 v7 v8 : Option D) : ∀ (ws : List D) (p : List D) (k : Nat) (acc : List D), potOk k p → k + 2 * ws.length ≤ 1000000 → acc.length + ws.length ≤ 1000 →
    ∃ (ms : List (List Str)) (p' : List D), lcL [some (.ref 0), v1, v2, v3, some (.lst (nms.map D.str)), v5, v6, v7, v8, none] [9] nameT tYesM (callM x__law_marks_drawn (consM (varM 0) (consM (varM 4) nilM))) ws acc [.lst p] = .ok (acc ++ mL ms) [.lst p'] ∧ potOk (k + 2 * ws.length) p' ∧ ms.length = ws.length ∧ ∀ m ∈ ms, m.Sublist nms
  | [], p, k, acc, hp, hk, ha => ⟨[], p, by simp [lcL, mL], hp, rfl, fun _ h => by cases h⟩
  | w :: ws, p, k, acc, hp, hk, ha => by
    simp only [List.length_cons] at hk ha
    obtain ⟨d, p1, ⟨m, rfl, hm⟩, e2, e3⟩ := marks_drawn nms (by decide) [.lst p] 0 p k rfl hp (by simp only [nms, List.length_cons, List.length_nil]; omega)
    simp only [List.set_cons_zero] at e3
    have e2 : potOk (k + 2) p1 := e2
    obtain ⟨ms, p', r1, r2, r3, r4⟩ := rows_loop v1 v2 v3 v5 v6 v7 v8 ws p1 (k + 2) (acc ++ [sD m]) e2 (by omega) (by simp; omega)
    refine ⟨m :: ms, p', ?_, r2.le (by simp; omega), by simp [r3], fun x hx => ?_⟩
    · have hme : callM x__law_marks_drawn (consM (varM 0) (consM (varM 4) nilM)) [some (.ref 0), v1, v2, v3, some (.lst (nms.map D.str)), v5, v6, v7, v8, some w] [.lst p] = .ok (sD m) [.lst p1] := by
        simp only [l_callM, l_consM, l_varM, List.getElem?_cons_succ, List.getElem?_cons_zero, R.bind_ok, l_nilM, e3]
      rw [lcL_t (T := nameT) (xs := [w]) (S1 := [.lst p]) (S2 := [.lst p1]) (y := sD m) rfl rfl hme (sizeLine_ge' (by omega)), r1]
      simp [mL]
    · rcases List.mem_cons.mp hx with rfl | hx
      · exact hm
      · exact r4 x hx
end K25
end

section
set_option Elab.async false
set_option linter.all false
set_option maxRecDepth 100000
set_option maxHeartbeats 4000000
/-! Plain law of k25, part 16: a graph drawn. -/
namespace K25
open PySem PySem.Spec DL
def edB : FM := expM (appM (varM 7) (tupM (consM (callM intCG (consM (callM x__law_take (consM (varM 0) (consM (varM 5) nilM))) nilM)) (consM (callM x__law_of (consM (varM 0) (consM (varM 3) nilM))) (consM (callM intCG (consM (callM x__law_take (consM (varM 0) (consM (varM 5) nilM))) nilM)) nilM)))))
def eIn (n : Nat) (e : Ed) : Prop := e.1 < n ∧ e.2.2 < n ∧ e.2.1 ∈ lbs
theorem edge_step (v1 v2 v4 v6 v8 v9 : Option D) (n : Nat) (hn : 1 ≤ n ∧ n ≤ 6) (p : List D) (k : Nat) (es : List Ed) (hp : potOk k p) (hk : k + 3 ≤ 1000000) (he : es.length ≤ 100) :
    ∃ (e : Ed) (p' : List D), edB [some (.ref 0), v1, v2, some (.lst (lbs.map D.str)), v4, some (.int (n : Int)), v6, some (.ref 1), v8, v9] [.lst p, .lst (eL es)] = .nx [some (.ref 0), v1, v2, some (.lst (lbs.map D.str)), v4, some (.int (n : Int)), v6, some (.ref 1), v8, v9] [.lst p', .lst (eL (es ++ [e]))] ∧ potOk (k + 3) p' ∧ eIn n e := by
  obtain ⟨d1, p1, ⟨a, rfl, ha⟩, q1, r1⟩ := take_ok n hn.1 (by omega) [.lst p, .lst (eL es)] 0 p k rfl hp (by omega)
  simp only [List.set_cons_zero] at r1
  obtain ⟨d2, p2, hd2, q2, r2⟩ := of_ok (lbs.map D.str) (by decide) (by decide) (lowL_strs lbs) [.lst p1, .lst (eL es)] 0 p1 (k + 1) rfl q1 (by omega)
  simp only [List.set_cons_zero] at r2
  obtain ⟨s, hs, rfl⟩ := List.mem_map.mp hd2
  obtain ⟨d3, p3, ⟨b, rfl, hb⟩, q3, r3⟩ := take_ok n hn.1 (by omega) [.lst p2, .lst (eL es)] 0 p2 (k + 2) rfl q2 (by omega)
  simp only [List.set_cons_zero] at r3
  refine ⟨(a, s, b), p3, ?_, q3, ha, hb, hs⟩
  have ap : app1 [.lst p3, .lst (eL es)] 1 (.tup [.int (a : Int), .str s, .int (b : Int)]) = .ok .non [.lst p3, .lst (eL (es ++ [(a, s, b)]))] := by
    rw [app_ok (l := eL es) rfl (by simp [eL]; omega)]
    simp [eL, eD]
  have hr : recv [.lst p, .lst (eL es)] (.ref 1) = some 1 := rfl
  have h3 : ([D.int (a : Int), .str s, .int (b : Int)] : List D).length ≤ sizeLine := by simp
  generalize D.str <$> lbs = L at *
  simp only [edB, l_expM, l_appM, l_recvM, l_varM, List.getElem?_cons_succ, List.getElem?_cons_zero, R.bind_ok, hr, l_tupM, l_consM, l_callM, l_nilM, r1, intC_int, r2, r3, if_pos h3, ap, l_R_st]
theorem edges_loop (v1 v2 v4 v6 v9 : Option D) (n : Nat) (hn : 1 ≤ n ∧ n ≤ 6) : ∀ (ws : List D) (p : List D) (k : Nat) (es : List Ed) (v8 : Option D), potOk k p → k + 3 * ws.length ≤ 1000000 → es.length + ws.length ≤ 100 → (∀ e ∈ es, eIn n e) →
    ∃ (es' : List Ed) (p' : List D) (v8' : Option D), forL [8] nameT edB ws [some (.ref 0), v1, v2, some (.lst (lbs.map D.str)), v4, some (.int (n : Int)), v6, some (.ref 1), v8, v9] [.lst p, .lst (eL es)] = .nx [some (.ref 0), v1, v2, some (.lst (lbs.map D.str)), v4, some (.int (n : Int)), v6, some (.ref 1), v8', v9] [.lst p', .lst (eL es')] ∧ potOk (k + 3 * ws.length) p' ∧ (∀ e ∈ es', eIn n e) ∧ es'.length = es.length + ws.length
  | [], p, k, es, v8, hp, _, _, he => ⟨es, p, v8, rfl, hp, he, rfl⟩
  | w :: ws, p, k, es, v8, hp, hk, hl, he => by
    simp only [List.length_cons] at hk hl
    obtain ⟨e, p1, h1, h2, h3⟩ := edge_step v1 v2 v4 v6 (some w) v9 n hn p k es hp (by omega) (by omega)
    obtain ⟨es', p', v8', g1, g2, g3, g4⟩ := edges_loop v1 v2 v4 v6 v9 n hn ws p1 (k + 3) (es ++ [e]) (some w) h2 (by omega) (by simp; omega) (fun x hx => by
      rcases List.mem_append.mp hx with z | z
      · exact he x z
      · rcases List.mem_singleton.mp z with rfl
        exact h3)
    refine ⟨es', p', v8', ?_, g2.le (by simp; omega), g3, by rw [g4]; simp; omega⟩
    rw [← g1]
    exact forL_cons (T := nameT) (xs := [w]) rfl h1
/-! ### sorted, each once -/
theorem insK_len (x : List L2.Key) : ∀ l : List (List L2.Key), (insK x l).length ≤ l.length + 1
  | [] => by simp [insK]
  | y :: r => by
    have := insK_len x r
    unfold insK
    split
    · simp
    · split
      · simp
      · simp; omega
theorem tsort_len : ∀ l : List (List L2.Key), (tsort l).length ≤ l.length
  | [] => by simp [tsort]
  | x :: r => by
    have h1 := tsort_len r
    have h2 := insK_len x (tsort r)
    simp only [tsort, List.length_cons]; omega
theorem keys_back (es : List Ed) : ∀ l : List (List L2.Key), (∀ k ∈ l, k ∈ es.map keyE) → ∃ r : List Ed, l = r.map keyE ∧ ∀ e ∈ r, e ∈ es
  | [], _ => ⟨[], rfl, fun _ h => by cases h⟩
  | k :: l, h => by
    obtain ⟨e, he, rfl⟩ := List.mem_map.mp (h k List.mem_cons_self)
    obtain ⟨r, h1, h2⟩ := keys_back es l fun x hx => h x (List.mem_cons_of_mem _ hx)
    refine ⟨e :: r, by rw [h1]; rfl, fun x hx => ?_⟩
    rcases List.mem_cons.mp hx with rfl | hx
    · exact he
    · exact h2 x hx
theorem ris_pw : ∀ {es : List Ed}, (es.map keyE).Pairwise TLt → risE es = true
  | [], _ => rfl
  | [a], _ => rfl
  | a :: b :: r, h => by
    have h2 := List.pairwise_cons.mp h
    have ih := ris_pw (es := b :: r) h2.2
    have hab : tlt (keyE a) (keyE b) = true := h2.1 (keyE b) List.mem_cons_self
    simp [risE] at ih ⊢
    exact ⟨hab, ih⟩
theorem tks_eL : ∀ es : List Ed, tksOf (eL es) = some (es.map keyE)
  | [] => rfl
  | e :: es => by
    have := tks_eL es
    show (tkOf (eD e)).bind _ = _
    rw [tk_eD]
    show (tksOf (eL es)).map _ = _
    rw [this]; rfl
theorem sig_eL (es : List Ed) : oneSig (es.map keyE) = true := by
  cases es with
  | nil => rfl
  | cons e es => simp [oneSig, keyE, isI, Function.comp_def]
theorem tkT_keyE (e : Ed) : tkT (keyE e) = eD e := rfl
theorem sox_ok (S : Sto) (env : En) (j n : Nat) (es : List Ed) (h : env[j]? = some (some (.ref n))) (hn : S[n]? = some (.lst (eL es))) (hl : es.length < 64) :
    ∃ r : List Ed, soxM (varM j) env S = .ok (eL r) S ∧ risE r = true ∧ (∀ e ∈ r, e ∈ es) ∧ r.length ≤ es.length := by
  obtain ⟨r, h1, h2⟩ := keys_back es (tsort (es.map keyE)) fun k hk => mem_tsort.mp hk
  refine ⟨r, ?_, ?_, h2, ?_⟩
  · have hc : oneSig (es.map keyE) = true ∧ (es.map keyE).length < 64 := ⟨sig_eL es, by simpa using hl⟩
    unfold soxM
    simp only [l_varM, h, R.bind_ok, asL_ref hn, tks_eL, if_pos hc, h1, List.map_map]
    rfl
  · refine ris_pw ?_
    rw [← h1]
    refine tsort_sorted (g := [true, false, true]) fun y hy => ?_
    obtain ⟨e, _, rfl⟩ := List.mem_map.mp hy
    rfl
  · have := tsort_len (es.map keyE)
    rw [h1] at this
    simpa using this
/-! ### the graph -/
theorem lbs_ok : ∀ s ∈ lbs, okName s = true ∧ s.length ≤ 5 := by decide +kernel
theorem nms_sub : ∀ m : List Str, m.Sublist nms → mkOk m = true ∧ wOk m ∧ m.length ≤ 2 ∧ ∀ s ∈ m, s.length ≤ 5 := by
  intro m h
  have hm : m = ([] : List Str) ∨ m = (["a"] : List Str) ∨ m = (["bc"] : List Str) ∨ m = (["a", "bc"] : List Str) := by
    unfold nms at h
    cases h with
    | cons _ h =>
      cases h with
      | cons _ h => cases h; exact .inl rfl
      | cons_cons _ h => cases h; exact .inr (.inr (.inl rfl))
    | cons_cons _ h =>
      cases h with
      | cons _ h => cases h; exact .inr (.inl rfl)
      | cons_cons _ h => cases h; exact .inr (.inr (.inr rfl))
  have key : ∀ m ∈ ([[], ["a"], ["bc"], ["a", "bc"]] : List (List Str)), mkOk m = true ∧ (∀ s ∈ m, (∀ c ∈ sg s, c < 128) ∧ s.length ≤ 1000) ∧ m.length ≤ 1000 ∧ m.length ≤ 2 ∧ ∀ s ∈ m, s.length ≤ 5 := by decide +kernel
  have k := key m (by simpa using hm)
  exact ⟨k.1, ⟨k.2.1, k.2.2.1⟩, k.2.2.2⟩
theorem graph_drawn : PT x__law_graph_drawn [.int 6, .int 8, .lst (lbs.map D.str), .lst (nms.map D.str)] 40 (fun d => ∃ u, Dn u ∧ d = graphD u) := by
  refine PT.body' rfl (by simp [strs_argL, argL_int]) fun p k hp hk => ?_
  -- many
  obtain ⟨d1, p1, ⟨t, rfl, ht⟩, q1, r1⟩ := take_ok 6 (by decide) (by decide) [.lst p] 0 p k rfl hp (by omega)
  simp only [List.set_cons_zero] at r1
  have r1 : x__law_take [.lst p] [.ref 0, .int 6] = .ok (.int (t : Int)) [.lst p1] := r1
  -- marks
  obtain ⟨ms, p2, r2, q2, l2, s2⟩ := rows_loop (some (.int 6)) (some (.int 8)) (some (.lst (lbs.map D.str))) (some (.int ((t + 1 : Nat) : Int))) none none none ((List.range (t + 1)).map fun i : Nat => D.int (i : Int)) p1 (k + 1) [] q1 (by simp; omega) (by simp; omega)
  have hiA : callI rngI1 (consM (varM 5) nilM) [some (.ref 0), some (.int 6), some (.int 8), some (.lst (lbs.map D.str)), some (.lst (nms.map D.str)), some (.int ((t + 1 : Nat) : Int)), none, none, none, none] [.lst p1] = .ok (.seq ((List.range (t + 1)).map fun i : Nat => D.int (i : Int))) [.lst p1] := hi2 (by simp) (by omega)
  simp only [List.length_map, List.length_range] at l2 q2
  have lc : lcM (callI rngI1 (consM (varM 5) nilM)) [9] [9] nameT tYesM (callM x__law_marks_drawn (consM (varM 0) (consM (varM 4) nilM))) [some (.ref 0), some (.int 6), some (.int 8), some (.lst (lbs.map D.str)), some (.lst (nms.map D.str)), some (.int ((t + 1 : Nat) : Int)), none, none, none, none] [.lst p1] = .ok (mL ms) [.lst p2] := by
    unfold lcM
    rw [hiA, R.bind_ok]
    generalize (List.range (t + 1)).map (fun i : Nat => D.int (i : Int)) = L at r2 ⊢
    exact (lcK_seq (all := L) L 0 [] [.lst p1] rfl).trans r2
  -- how many edges
  obtain ⟨d3, p3, ⟨c, rfl, hc⟩, q3, r3⟩ := take_ok 9 (by decide) (by decide) [.lst p2, .lst []] 0 p2 (k + 1 + 2 * (t + 1)) rfl q2 (by omega)
  simp only [List.set_cons_zero] at r3
  have r3 : x__law_take [.lst p2, .lst []] [.ref 0, .int 9] = .ok (.int (c : Int)) [.lst p3, .lst []] := r3
  obtain ⟨es, p4, v8, r4, q4, e4, l4⟩ := edges_loop (some (.int 6)) (some (.int 8)) (some (.lst (nms.map D.str))) (some (.tup (mL ms))) none (t + 1) (by omega) ((List.range c).map fun i : Nat => D.int (i : Int)) p3 (k + 1 + 2 * (t + 1) + 1) [] none q3 (by simp; omega) (by simp; omega) (fun _ h => by cases h)
  simp only [List.length_map, List.length_range, List.length_nil, Nat.zero_add] at l4 q4
  have hi4 : callI rngI1 (consM (callM x__law_take (consM (varM 0) (consM (op2M addA (varM 2) (cM (.int 1))) nilM))) nilM) [some (.ref 0), some (.int 6), some (.int 8), some (.lst (lbs.map D.str)), some (.lst (nms.map D.str)), some (.int ((t + 1 : Nat) : Int)), some (.tup (mL ms)), some (.ref 1), none, none] [.lst p2, .lst []] = .ok (.seq ((List.range c).map fun i : Nat => D.int (i : Int))) [.lst p3, .lst []] := by
    refine hi2 ?_ (by omega)
    simp [r3]
  have fm := forM_seq (is := [8]) (T := nameT) (b := edB) hi4
  rw [show ([.lst p3, .lst []] : Sto) = [.lst p3, .lst (eL [])] from rfl, r4] at fm
  -- sorted
  obtain ⟨r, s1, s3, s4, s5⟩ := sox_ok [.lst p4, .lst (eL es)] [some (.ref 0), some (.int 6), some (.int 8), some (.lst (lbs.map D.str)), some (.lst (nms.map D.str)), some (.int ((t + 1 : Nat) : Int)), some (.tup (mL ms)), some (.ref 1), v8, none] 7 1 es rfl rfl (by omega)
  have D0 : Dn (ms, r) := by
    refine ⟨⟨⟨fun x hx => ?_, fun x hx => ?_, by show ms.length ≤ 60; omega⟩, s3, fun x hx => ?_⟩, fun z => ?_, by show ms.length ≤ 6; omega, by show r.length ≤ 8; omega, fun x hx => ?_, fun x hx => ?_⟩
    · obtain ⟨a1, a2, a3, a4⟩ := nms_sub x (s2 x hx)
      exact ⟨a1, a2, by omega⟩
    · obtain ⟨b1, b2, b3⟩ := e4 x (s4 x hx)
      exact ⟨(lbs_ok _ b3).1, by omega, by omega⟩
    · obtain ⟨b1, b2, b3⟩ := e4 x (s4 x hx)
      show x.1 < ms.length ∧ x.2.2 < ms.length
      omega
    · have : ms = [] := z
      rw [this] at l2
      simp at l2
    · obtain ⟨a1, a2, a3, a4⟩ := nms_sub x (s2 x hx)
      exact ⟨a3, a4⟩
    · obtain ⟨b1, b2, b3⟩ := e4 x (s4 x hx)
      exact (lbs_ok _ b3).2
  refine ⟨graphD (ms, r), [.lst p4, .lst (eL es)], p4, ?_, rfl, q4.le (by omega), ⟨(ms, r), D0, rfl⟩, low_graphD _⟩
  have hb : b__law_graph_drawn = seqM (setM 5 (callM intCG (consM (op2M addA (cM (.int 1)) (callM x__law_take (consM (varM 0) (consM (varM 1) nilM)))) nilM)))
      (seqM (setM 6 (callM tupCG (consM (frzM (lcM (callI rngI1 (consM (varM 5) nilM)) [9] [9] nameT tYesM (callM x__law_marks_drawn (consM (varM 0) (consM (varM 4) nilM))))) nilM)))
      (seqM (setM 7 (ownM (lstM nilM)))
      (seqM (forM (callI rngI1 (consM (callM x__law_take (consM (varM 0) (consM (op2M addA (varM 2) (cM (.int 1))) nilM))) nilM)) [8] nameT edB)
      (retM (tupM (consM (varM 6) (consM (callM tupCG (consM (frzM (soxM (varM 7))) nilM)) nilM))))))) := rfl
  refine body_rt (env := [some (.ref 0), some (.int 6), some (.int 8), some (.lst (lbs.map D.str)), some (.lst (nms.map D.str)), none, none, none, none, none]) rfl ?_
  rw [hb]
  have tt : (1 : Int) + (t : Int) = ((t + 1 : Nat) : Int) := by omega
  rw [seq_nx (env1 := [some (.ref 0), some (.int 6), some (.int 8), some (.lst (lbs.map D.str)), some (.lst (nms.map D.str)), some (.int ((t + 1 : Nat) : Int)), none, none, none, none]) (S1 := [.lst p1]) (by
    simp only [l_setM, l_callM, l_consM, l_op2M, l_cM, l_varM, List.getElem?_cons_succ, List.getElem?_cons_zero, R.bind_ok, l_nilM, r1, add_int, tt, intC_int, l_R_st, List.set_cons_succ, List.set_cons_zero])]
  rw [seq_nx (env1 := [some (.ref 0), some (.int 6), some (.int 8), some (.lst (lbs.map D.str)), some (.lst (nms.map D.str)), some (.int ((t + 1 : Nat) : Int)), some (.tup (mL ms)), none, none, none]) (S1 := [.lst p2]) (by
    simp only [l_setM, l_callM, l_consM, frz_eq lc, R.bind_ok, l_nilM, tupC_lst, l_R_st, List.set_cons_succ, List.set_cons_zero])]
  rw [seq_nx (env1 := [some (.ref 0), some (.int 6), some (.int 8), some (.lst (lbs.map D.str)), some (.lst (nms.map D.str)), some (.int ((t + 1 : Nat) : Int)), some (.tup (mL ms)), some (.ref 1), none, none]) (S1 := [.lst p2, .lst []]) (by simp)]
  rw [seq_nx fm]
  have h2 : ([D.tup (mL ms), .tup (eL r)] : List D).length ≤ sizeLine := by simp
  simp only [l_retM, l_tupM, l_consM, l_varM, List.getElem?_cons_succ, List.getElem?_cons_zero, R.bind_ok, l_callM, frz_eq s1, l_nilM, tupC_lst, if_pos h2, l_R_st]
  rfl
end K25
end

section
set_option Elab.async false
set_option linter.all false
set_option maxRecDepth 100000
set_option maxHeartbeats 4000000
/-! Plain law of k25, part 17: a text bent. -/
namespace K25
open PySem PySem.Spec DL
theorem PT_take (u : Nat) (h1 : 1 ≤ u) (h2 : u ≤ 1000) : PT (subM x__law_take) [.int (u : Int)] 1 (below u) := (take_ok u h1 h2).sub rfl (by simp [argL_int]) fun d ⟨t, e, _⟩ => by rw [e]; rfl
theorem PT_of (os : List D) (h1 : 1 ≤ os.length) (h2 : os.length ≤ 1000) (hl : lowL 0 os = true) : PT (subM x__law_of) [.lst os] 1 (· ∈ os) := (of_ok os h1 h2 hl).sub rfl (by
    have : lowD 0 (.lst os) = true := hl
    simp [argL, this]) fun d hd => lowL_all.mp hl d hd
/-! ### slices -/
def cutL {α : Type} (l : List α) (lo hi : Option Int) : List α := (l.drop (HT.sIx l.length 0 lo)).take (HT.sIx l.length l.length hi - HT.sIx l.length 0 lo)
theorem cutD_map (l : List Str) (lo hi : Option Int) : cutD (l.map D.str) lo hi = (cutL l lo hi).map D.str := by
  unfold cutD cutL
  rw [List.length_map, List.map_take, List.map_drop]
theorem cutL_mem {α : Type} {l : List α} {lo hi : Option Int} {x : α} (h : x ∈ cutL l lo hi) : x ∈ l := List.mem_of_mem_drop (List.mem_of_mem_take h)
theorem cutL_len {α : Type} (l : List α) (lo hi : Option Int) : (cutL l lo hi).length ≤ l.length := by
  unfold cutL
  rw [List.length_take, List.length_drop]
  omega
theorem cutS_sg (z : Str) (lo hi : Option Int) : sg (L2.cutS z lo hi) = cutL (sg z) lo hi := by
  unfold L2.cutS cutL
  rw [len_sg]
/-! ### whether a joined text may be looked at -/
theorem flat_free {ps : List (List Nat)} (h : ∀ p ∈ ps, 10 ∉ p) : ps.flatMap (cutW 10) = ps := by
  induction ps with
  | nil => rfl
  | cons p ps ih => rw [List.flatMap_cons, cutW_free (h p List.mem_cons_self), ih fun x hx => h x (List.mem_cons_of_mem _ hx)]; rfl
theorem textOk_join {ks : List Str} (h : ∀ s ∈ ks, s.length ≤ 60 ∧ asc (sg s)) (hn : ks.length ≤ 100) (hc : ((ks.map sg).flatMap (cutW 10)).length < 400) : TextOk (sg (Txt.join (mkS [10]) ks)) := by
  have hm : ∀ p ∈ ks.map sg, p.length ≤ 60 ∧ asc p := fun p hp => by
    obtain ⟨s, hs, rfl⟩ := List.mem_map.mp hp
    rw [← len_sg]; exact h s hs
  rw [join_sg]
  by_cases he : ks.map sg = []
  · rw [he]
    exact ⟨fun c hc => (by cases hc), (by simp [joinW]), (by simp [joinW, cutW]), fun l hl => (by simp [joinW, cutW] at hl; subst hl; simp)⟩
  · refine ⟨fun c hc => ?_, ?_, by rw [cut_join 10 he]; exact hc, fun l hl => ?_⟩
    · rcases join_mem hc with z | ⟨p, hp, z⟩
      · omega
      · exact (hm p hp).2 c z
    · have := join_len (c := 10) (B := 60) fun p hp => (hm p hp).1
      rw [List.length_map] at this
      omega
    · rw [cut_join 10 he] at hl
      obtain ⟨p, hp, hl⟩ := List.mem_flatMap.mp hl
      exact Nat.le_trans ((cut_len 10 p).2 l hl).1 (hm p hp).1
/-- lines of a graph's text -/
structure Ls (ls : List Str) : Prop where
  one : 1 ≤ ls.length
  few : ls.length ≤ 14
  line : ∀ s ∈ ls, s.length ≤ 25 ∧ asc (sg s) ∧ 10 ∉ sg s
def lines4 (A B C ls : List Str) (b : Str) : List (List Str) := [A ++ [b] ++ B, A ++ C, B, ls ++ B, ls.reverse]
theorem bent_ok {ls A B C : List Str} {b : Str} (H : Ls ls) (hA : ∀ s ∈ A, s ∈ ls) (hB : ∀ s ∈ B, s ∈ ls) (hC : ∀ s ∈ C, s ∈ ls) (lA : A.length ≤ 14) (lB : B.length ≤ 14) (lC : C.length ≤ 14) (hb : b.length ≤ 60 ∧ asc (sg b)) :
    ∀ ks ∈ lines4 A B C ls b, TextOk (sg (Txt.join (mkS [10]) ks)) ∧ small 60 ks := by
  have ok : ∀ s ∈ ls, s.length ≤ 60 ∧ asc (sg s) := fun s hs => ⟨by have := (H.line s hs).1; omega, (H.line s hs).2.1⟩
  have free : ∀ ks : List Str, (∀ s ∈ ks, s ∈ ls) → ∀ p ∈ ks.map sg, 10 ∉ p := fun ks h p hp => by
    obtain ⟨s, hs, rfl⟩ := List.mem_map.mp hp
    exact (H.line s (h s hs)).2.2
  have plain : ∀ ks : List Str, (∀ s ∈ ks, s ∈ ls) → ks.length ≤ 40 → TextOk (sg (Txt.join (mkS [10]) ks)) ∧ small 60 ks := fun ks h hn => by
    refine ⟨textOk_join (fun s hs => ok s (h s hs)) (by omega) ?_, fun s hs => (ok s (h s hs)).1, by omega⟩
    rw [flat_free (free ks h), List.length_map]; omega
  have few := H.few
  intro ks hks
  simp only [lines4, List.mem_cons, List.not_mem_nil, or_false] at hks
  rcases hks with rfl | rfl | rfl | rfl | rfl
  · have hm : ∀ s ∈ A ++ [b] ++ B, s.length ≤ 60 ∧ asc (sg s) := fun s hs => by
      simp only [List.mem_append, List.mem_singleton] at hs
      rcases hs with (h | rfl) | h
      · exact ok s (hA s h)
      · exact hb
      · exact ok s (hB s h)
    refine ⟨textOk_join hm (by simp; omega) ?_, fun s hs => (hm s hs).1, by simp; omega⟩
    rw [List.map_append, List.map_append, List.flatMap_append, List.flatMap_append, flat_free (free A hA), flat_free (free B hB)]
    have := (cut_len 10 (sg b)).1
    have hb1 := hb.1
    rw [len_sg] at hb1
    simp only [List.length_append, List.length_map, List.map_cons, List.map_nil, List.flatMap_cons, List.flatMap_nil, List.append_nil]
    omega
  · exact plain _ (fun s hs => by rcases List.mem_append.mp hs with z | z; exact hA s z; exact hC s z) (by simp; omega)
  · exact plain _ hB (by omega)
  · exact plain _ (fun s hs => by rcases List.mem_append.mp hs with z | z; exact z; exact hB s z) (by simp; omega)
  · exact plain _ (fun s hs => List.mem_reverse.mp hs) (by simp; omega)
def sgns : List Str := ["", " ", "0", "7", "x", "Z", "-", "\n"]
theorem sgns_ok : ∀ s ∈ sgns, s.length ≤ 1 ∧ ∀ c ∈ sg s, c < 128 := by decide +kernel
def turnB : FM := (seqM (parM 6 7 (consM (callM (subM x__law_take) (consM (varM 0) (consM (callM lenG (consM (varM 4) nilM)) nilM))) (consM (callM (subM x__law_of) (consM (varM 0) (consM (varM 4) nilM))) nilM)))
 (seqM (setM 8 (callM (subM x__law_take) (consM (varM 0) (consM (op2M addA (callM lenG (consM (varM 7) nilM)) (cM (.int 1))) nilM))))
 (seqM (setM 9 (callM (subM x__law_of) (consM (varM 0) (consM (frzM (lstM (consM (cM (.str "")) (consM (cM (.str " ")) (consM (cM (.str "0")) (consM (cM (.str "7")) (consM (cM (.str "x")) (consM (cM (.str "Z")) (consM (cM (.str "-")) (consM (cM (.str "\n")) nilM)))))))))) nilM))))
 (seqM (setM 10 (op2M addA (op2M addA (sliM sliG (varM 7) noneM (partM (varM 8))) (varM 9)) (sliM sliG (varM 7) (partM (op2M addA (varM 8) (callM (subM x__law_take) (consM (varM 0) (consM (cM (.int 2)) nilM))))) noneM)))
 (seqM (setM 11 (frzM (lstM (consM (op2M addA (op2M addA (sliM sliG (varM 4) noneM (partM (varM 6))) (frzM (lstM (consM (varM 10) nilM)))) (sliM sliG (varM 4) (partM (varM 6)) noneM)) (consM (op2M addA (sliM sliG (varM 4) noneM (partM (varM 6))) (sliM sliG (varM 4) (partM (op2M addA (varM 6) (cM (.int 1)))) noneM)) (consM (sliM sliG (varM 4) (partM (varM 6)) noneM) (consM (op2M addA (varM 4) (sliM sliG (varM 4) (partM (varM 6)) noneM)) nilM)))))))
 (seqM (setM 11 (op2M addA (varM 11) (frzM (lstM (consM (revM (varM 4)) nilM)))))
 (ifS (notB (tstM (callM (subM x__law_is_text_right) (consM (sm1 joinG (cM (.str "\n")) (callM (subM x__law_of) (consM (varM 0) (consM (varM 11) nilM)))) nilM)))) (retM (cM (.bl false))) passM)))))))
def fE (v1 v2 v3 v4 v5 v6 v7 v8 v9 v10 v11 v12 v13 v14 : Option D) : En := [some (.ref 0), v1, v2, v3, v4, v5, v6, v7, v8, v9, v10, v11, v12, v13, v14]
theorem add_lst (S : Sto) {a b : List D} (h : a.length + b.length ≤ 1000) : addA S (.lst a) (.lst b) = .ok (.lst (a ++ b)) S := by
  have hz : a.length + b.length ≤ sizeLine := by simp; omega
  unfold addA
  simp only [asX_lst, if_pos hz]
theorem sli_lst (S : Sto) (l : List D) (lo hi : Option Int) : sliG S (.lst l) lo hi = .ok (.lst (cutD l lo hi)) S := rfl
theorem sli_str (S : Sto) {z : Str} (h : z.length ≤ 1000) (lo hi : Option Int) : sliG S (.str z) lo hi = .ok (.str (L2.cutS z lo hi)) S := by
  have hz : z.length ≤ sizeLine := by simp; omega
  simp only [sliG, if_pos hz]
theorem turn_ok (v1 v2 v3 v5 v6 v7 v8 v9 v10 v11 v12 v13 v14 : Option D) {ls : List Str} (H : Ls ls) (p : List D) (k : Nat) (hp : potOk k p) (hk : k + 6 ≤ 1000000) :
    ∃ (v6' v7' v8' v9' v10' v11' : Option D) (p' : List D), turnB (fE v1 v2 v3 (some (.lst (ls.map D.str))) v5 v6 v7 v8 v9 v10 v11 v12 v13 v14) [.lst p] = .nx (fE v1 v2 v3 (some (.lst (ls.map D.str))) v5 v6' v7' v8' v9' v10' v11' v12 v13 v14) [.lst p'] ∧ potOk (k + 6) p' := by
  have h1 := H.one
  have h14 := H.few
  obtain ⟨_, p1, ⟨at_, rfl, hat⟩, q1, r1⟩ := PT_take ls.length h1 (by omega) [.lst p] 0 p k rfl hp (by omega)
  obtain ⟨_, p2, hl, q2, r2⟩ := PT_of (ls.map D.str) (by simpa using h1) (by simp; omega) (lowL_strs ls) [.lst p1] 0 p1 (k + 1) rfl q1 (by omega)
  obtain ⟨line, hline, rfl⟩ := List.mem_map.mp hl
  obtain ⟨ll, la, lf⟩ := H.line line hline
  obtain ⟨_, p3, ⟨spot, rfl, hs⟩, q3, r3⟩ := PT_take (line.length + 1) (by omega) (by omega) [.lst p2] 0 p2 (k + 2) rfl q2 (by omega)
  obtain ⟨_, p4, hg, q4, r4⟩ := PT_of (sgns.map D.str) (by decide) (by decide) (lowL_strs sgns) [.lst p3] 0 p3 (k + 3) rfl q3 (by omega)
  obtain ⟨sign, hsign, rfl⟩ := List.mem_map.mp hg
  obtain ⟨sl, sa⟩ := sgns_ok sign hsign
  obtain ⟨_, p5, ⟨w, rfl, hw⟩, q5, r5⟩ := PT_take 2 (by decide) (by decide) [.lst p4] 0 p4 (k + 4) rfl q4 (by omega)
  simp only [List.set_cons_zero] at r1 r2 r3 r4 r5
  have r5 : subM x__law_take [.lst p4] [.ref 0, .int 2] = .ok (.int (w : Int)) [.lst p5] := r5
  -- the bent line
  generalize hb1 : L2.cutS line none (some (spot : Int)) = b1
  generalize hb2 : L2.cutS line (some ((spot : Int) + (w : Int))) none = b2
  have c1 : b1.length ≤ 25 ∧ asc (sg b1) := by
    rw [len_sg, ← hb1, cutS_sg]
    exact ⟨Nat.le_trans (cutL_len _ _ _) (by rw [← len_sg]; exact ll), fun c hc => la c (cutL_mem hc)⟩
  have c2 : b2.length ≤ 25 ∧ asc (sg b2) := by
    rw [len_sg, ← hb2, cutS_sg]
    exact ⟨Nat.le_trans (cutL_len _ _ _) (by rw [← len_sg]; exact ll), fun c hc => la c (cutL_mem hc)⟩
  have hb : ((b1 ++ sign) ++ b2).length ≤ 60 ∧ asc (sg ((b1 ++ sign) ++ b2)) := by
    refine ⟨by simp only [app_len]; omega, fun c hc => ?_⟩
    rw [sg_app, sg_app, List.mem_append, List.mem_append] at hc
    rcases hc with (h | h) | h
    · exact c1.2 c h
    · exact sa c h
    · exact c2.2 c h
  generalize hA : cutL ls none (some (at_ : Int)) = A
  generalize hB : cutL ls (some (at_ : Int)) none = B
  generalize hC : cutL ls (some ((at_ : Int) + 1)) none = C
  have lA : A.length ≤ 14 := by rw [← hA]; exact Nat.le_trans (cutL_len _ _ _) h14
  have lB : B.length ≤ 14 := by rw [← hB]; exact Nat.le_trans (cutL_len _ _ _) h14
  have lC : C.length ≤ 14 := by rw [← hC]; exact Nat.le_trans (cutL_len _ _ _) h14
  have bo := bent_ok H (A := A) (B := B) (C := C) (b := (b1 ++ sign) ++ b2) (fun s h => cutL_mem (hA ▸ h)) (fun s h => cutL_mem (hB ▸ h)) (fun s h => cutL_mem (hC ▸ h)) lA lB lC hb
  generalize hL5 : lines4 A B C ls ((b1 ++ sign) ++ b2) = L5 at bo
  have lL5 : L5.length = 5 := by rw [← hL5]; rfl
  obtain ⟨_, p6, hk6, q6, r6⟩ := PT_of (L5.map fun ks => .lst (ks.map D.str)) (by rw [List.length_map, lL5]; decide) (by rw [List.length_map, lL5]; decide) (lowL_all.mpr fun d hd => by
    obtain ⟨ks, _, rfl⟩ := List.mem_map.mp hd
    exact lowL_strs ks) [.lst p5] 0 p5 (k + 5) rfl q5 (by omega)
  obtain ⟨ks, hks, rfl⟩ := List.mem_map.mp hk6
  simp only [List.set_cons_zero] at r6
  obtain ⟨tk, sm⟩ := bo ks hks
  have jn := (join_ok (S := [.lst p6]) (c := 10) sm).1
  have tr : subM x__law_is_text_right [.lst p6] [.str (Txt.join (mkS [10]) ks)] = .ok (.bl true) [.lst p6] := by
    have := text_right [] tk
    rw [mk_sg] at this
    exact sub_pure [.lst p6] this rfl rfl rfl
  have lw : ∀ S, lenG S [.str line] = .ok (.int line.length) S := fun S => by
    have hz : line.length ≤ sizeLine := by simp; omega
    simp only [lenG, if_pos hz]
  have s1 := sli_str [.lst p4] (z := line) (by omega) none (some (spot : Int))
  have s2 := sli_str [.lst p5] (z := line) (by omega) (some ((spot : Int) + (w : Int))) none
  rw [hb1] at s1
  rw [hb2] at s2
  have a1 := add_str [.lst p4] (a := b1) (b := sign) (by omega)
  have a2 := add_str [.lst p5] (a := b1 ++ sign) (b := b2) (by rw [app_len]; omega)
  generalize hbt : (b1 ++ sign) ++ b2 = bent at a2 hL5
  have mA := cutD_map ls none (some (at_ : Int))
  have mB := cutD_map ls (some (at_ : Int)) none
  have mC := cutD_map ls (some ((at_ : Int) + 1)) none
  rw [hA] at mA
  rw [hB] at mB
  rw [hC] at mC
  refine ⟨some (.int (at_ : Int)), some (.str line), some (.int (spot : Int)), some (.str sign), some (.str bent), some (.lst (L5.map fun ks => .lst (ks.map D.str))), p6, ?_, q6⟩
  have lml : lenG [.lst p] [.lst (ls.map D.str)] = .ok (.int (ls.length : Int)) [.lst p] := by rw [len_lst, List.length_map]
  have e8 : ([D.str "", .str " ", .str "0", .str "7", .str "x", .str "Z", .str "-", .str "\n"] : List D) = sgns.map D.str := rfl
  have ei : ((line.length : Nat) : Int) + 1 = ((line.length + 1 : Nat) : Int) := by omega
  have n8 : (sgns.map D.str).length ≤ sizeLine := by simp [sgns]
  have t1 : addA [.lst p5] (.lst (A.map D.str)) (.lst [.str bent]) = .ok (.lst (A.map D.str ++ [.str bent])) [.lst p5] := add_lst _ (by simp; omega)
  have t2 : addA [.lst p5] (.lst (A.map D.str ++ [.str bent])) (.lst (B.map D.str)) = .ok (.lst ((A.map D.str ++ [.str bent]) ++ B.map D.str)) [.lst p5] := add_lst _ (by simp; omega)
  have t3 : addA [.lst p5] (.lst (A.map D.str)) (.lst (C.map D.str)) = .ok (.lst (A.map D.str ++ C.map D.str)) [.lst p5] := add_lst _ (by simp; omega)
  have t4 : addA [.lst p5] (.lst (ls.map D.str)) (.lst (B.map D.str)) = .ok (.lst (ls.map D.str ++ B.map D.str)) [.lst p5] := add_lst _ (by simp; omega)
  have t5 : addA [.lst p5] (.lst [.lst ((A.map D.str ++ [.str bent]) ++ B.map D.str), .lst (A.map D.str ++ C.map D.str), .lst (B.map D.str), .lst (ls.map D.str ++ B.map D.str)]) (.lst [.lst (ls.map D.str).reverse]) = .ok (.lst (L5.map fun ks => .lst (ks.map D.str))) [.lst p5] := by
    rw [add_lst _ (by simp)]
    rw [← hL5]
    simp [lines4]
  unfold turnB fE
  rw [seq_nx (env1 := [some (.ref 0), v1, v2, v3, some (.lst (ls.map D.str)), v5, some (.int (at_ : Int)), some (.str line), v8, v9, v10, v11, v12, v13, v14]) (S1 := [.lst p2]) (by
    generalize ls.map D.str = L at *
    simp only [l_parM, l_consM, l_callM, l_varM, List.getElem?_cons_succ, List.getElem?_cons_zero, R.bind_ok, l_nilM, lml, r1, r2, l_R_st, List.set_cons_succ, List.set_cons_zero])]
  rw [seq_nx (env1 := [some (.ref 0), v1, v2, v3, some (.lst (ls.map D.str)), v5, some (.int (at_ : Int)), some (.str line), some (.int (spot : Int)), v9, v10, v11, v12, v13, v14]) (S1 := [.lst p3]) (by
    simp only [l_setM, l_consM, l_callM, l_varM, List.getElem?_cons_succ, List.getElem?_cons_zero, R.bind_ok, l_nilM, l_op2M, l_cM, lw, add_int, ei, r3, l_R_st, List.set_cons_succ, List.set_cons_zero])]
  rw [seq_nx (env1 := [some (.ref 0), v1, v2, v3, some (.lst (ls.map D.str)), v5, some (.int (at_ : Int)), some (.str line), some (.int (spot : Int)), some (.str sign), v10, v11, v12, v13, v14]) (S1 := [.lst p4]) (by
    simp only [l_setM, l_consM, l_callM, l_varM, List.getElem?_cons_succ, List.getElem?_cons_zero, R.bind_ok, l_nilM, l_frzM, l_lstM, l_cM, e8, if_pos n8, r4, l_R_st, List.set_cons_succ, List.set_cons_zero])]
  rw [seq_nx (env1 := [some (.ref 0), v1, v2, v3, some (.lst (ls.map D.str)), v5, some (.int (at_ : Int)), some (.str line), some (.int (spot : Int)), some (.str sign), some (.str bent), v11, v12, v13, v14]) (S1 := [.lst p5]) (by
    simp only [l_setM, l_op2M, l_sliM, l_varM, l_noneM, l_partM, List.getElem?_cons_succ, List.getElem?_cons_zero, R.bind_ok, s1, a1, l_callM, l_consM, l_cM, l_nilM, r5, add_int, s2, a2, l_R_st, List.set_cons_succ, List.set_cons_zero])]
  rw [seq_nx (env1 := [some (.ref 0), v1, v2, v3, some (.lst (ls.map D.str)), v5, some (.int (at_ : Int)), some (.str line), some (.int (spot : Int)), some (.str sign), some (.str bent), some (.lst [.lst ((A.map D.str ++ [.str bent]) ++ B.map D.str), .lst (A.map D.str ++ C.map D.str), .lst (B.map D.str), .lst (ls.map D.str ++ B.map D.str)]), v12, v13, v14]) (S1 := [.lst p5]) (by
    simp only [l_setM, l_frzM, l_lstM, l_consM, l_op2M, l_sliM, l_varM, l_noneM, l_partM, List.getElem?_cons_succ, List.getElem?_cons_zero, R.bind_ok, sli_lst, mA, l_nilM, List.length_cons, List.length_nil]
    rw [if_pos (by simp)]
    simp only [R.bind_ok, t1, mB, t2, l_cM, add_int, mC, t3, t4]
    rw [if_pos (by simp)]
    simp only [R.bind_ok, l_R_st, List.set_cons_succ, List.set_cons_zero])]
  rw [seq_nx (env1 := [some (.ref 0), v1, v2, v3, some (.lst (ls.map D.str)), v5, some (.int (at_ : Int)), some (.str line), some (.int (spot : Int)), some (.str sign), some (.str bent), some (.lst (L5.map fun ks => .lst (ks.map D.str))), v12, v13, v14]) (S1 := [.lst p5]) (by
    simp only [l_setM, l_op2M, l_varM, l_frzM, l_lstM, l_consM, revM, List.getElem?_cons_succ, List.getElem?_cons_zero, R.bind_ok, asL_lst, l_nilM, List.length_cons, List.length_nil]
    rw [if_pos (by simp)]
    simp only [R.bind_ok, t5, l_R_st, List.set_cons_succ, List.set_cons_zero])]
  rw [nl_lit]
  generalize L5.map (fun ks => D.lst (ks.map D.str)) = LL at r6 ⊢
  simp only [l_ifS, l_notB, l_tstM, l_callM, l_consM, sm1, l_cM, R.bind_ok, l_varM, List.getElem?_cons_succ, List.getElem?_cons_zero, l_nilM, r6, jn, tr, l_truB, truth, Bool.not_true, l_R_st, Bool.false_eq_true, if_false, l_passM]
end K25
end

section
set_option Elab.async false
set_option linter.all false
set_option maxRecDepth 100000
set_option maxHeartbeats 4000000
/-! Plain law of k25, part 18: the laps. -/
namespace K25
open PySem PySem.Spec DL
def Ev (env : En) : Prop := ∃ v1 v2 v3 v4 v5 v6 v7 v8 v9 v10 v11 v12 v13 v14, env = fE v1 v2 v3 v4 v5 v6 v7 v8 v9 v10 v11 v12 v13 v14
def EvL (L : List D) (env : En) : Prop := ∃ v1 v2 v3 v5 v6 v7 v8 v9 v10 v11 v12 v13 v14, env = fE v1 v2 v3 (some (.lst L)) v5 v6 v7 v8 v9 v10 v11 v12 v13 v14
theorem EvL.ev {L : List D} {env : En} (h : EvL L env) : Ev env := by
  obtain ⟨v1, v2, v3, v5, v6, v7, v8, v9, v10, v11, v12, v13, v14, rfl⟩ := h
  exact ⟨v1, v2, v3, _, v5, v6, v7, v8, v9, v10, v11, v12, v13, v14, rfl⟩
theorem turns_ok {ls : List Str} (H : Ls ls) : ∀ (ds : List D) (env : En) (p : List D) (k : Nat), EvL (ls.map D.str) env → potOk k p → k + 6 * ds.length ≤ 1000000 → ∃ (env' : En) (p' : List D), forL [5] nameT turnB ds env [.lst p] = .nx env' [.lst p'] ∧ EvL (ls.map D.str) env' ∧ potOk (k + 6 * ds.length) p'
  | [], env, p, k, he, hp, _ => ⟨env, p, rfl, he, hp⟩
  | d :: ds, env, p, k, he, hp, hk => by
    simp only [List.length_cons] at hk
    obtain ⟨v1, v2, v3, v5, v6, v7, v8, v9, v10, v11, v12, v13, v14, rfl⟩ := he
    obtain ⟨w6, w7, w8, w9, w10, w11, p1, e1, q1⟩ := turn_ok v1 v2 v3 (some d) v6 v7 v8 v9 v10 v11 v12 v13 v14 H p k hp (by omega)
    obtain ⟨env', p', e2, g2, q2⟩ := turns_ok H ds (fE v1 v2 v3 (some (.lst (ls.map D.str))) (some d) w6 w7 w8 w9 w10 w11 v12 v13 v14) p1 (k + 6) ⟨v1, v2, v3, _, _, _, _, _, _, _, _, _, _, rfl⟩ q1 (by omega)
    refine ⟨env', p', ?_, g2, q2.le (by simp; omega)⟩
    rw [← e2]
    exact forL_cons (T := nameT) (xs := [d]) rfl e1
theorem PT_graph : PT (subM x__law_graph_drawn) [.int 6, .int 8, .lst (lbs.map D.str), .lst (nms.map D.str)] 40 (fun d => ∃ u, Dn u ∧ d = graphD u) := graph_drawn.sub rfl (by simp [strs_argL, argL_int]) fun d ⟨u, _, e⟩ => by rw [e]; exact low_graphD u
theorem Dn.ls {u : Stt} (H : Dn u) : Ls (linesS u) := by
  refine ⟨?_, H.few, fun s hs => ?_⟩
  · have := H.ne
    cases h : u.1 with
    | nil => exact absurd h this
    | cons a r => simp [linesS, h]
  · have := H.line (sg s) (List.mem_map.mpr ⟨s, hs, rfl⟩)
    exact ⟨by rw [len_sg]; exact this.1, this.2.1, this.2.2⟩
theorem Dn.split {u : Stt} (H : Dn u) (S : Sto) : splitG S (textS u) (.str "\n") = .ok ((linesS u).map D.str) S := by
  have := text_split (S := S) H.textOk
  rw [mk_sg, H.cut] at this
  rw [this, linesD, List.map_map]
  congr 1
theorem shows_text {u : Stt} (H : Dn u) : Shows (.str (textS u)) := shows (n := 0) (rB_str H.textOk.asc) (by decide) (by
  have := H.textOk.len
  rw [← len_sg] at this
  simp only [wt]; omega)
def lapB : FM := (seqM (setM 2 (callM (subM x__law_graph_drawn) (consM (varM 0) (consM (cM (.int 6)) (consM (cM (.int 8)) (consM (frzM (lstM (consM (cM (.str "x")) (consM (cM (.str "knows")) nilM)))) (consM (frzM (lstM (consM (cM (.str "a")) (consM (cM (.str "bc")) nilM)))) nilM)))))))
 (seqM (setM 3 (callM (subM x_print_graph) (consM (varM 2) nilM)))
 (seqM (ifS (orB (cmpB neG (callM reprG (consM (varM 3) nilM)) (callM reprG (consM (sm1 joinG (cM (.str "\n")) (callM (subM x__law_lines) (consM (varM 2) nilM))) nilM))) (cmpB neG (callM reprG (consM (callM (subM x_read_graph) (consM (varM 3) nilM)) nilM)) (callM reprG (consM (varM 2) nilM)))) (retM (cM (.bl false))) passM)
 (seqM (setM 4 (frzM (sm1F splitG (varM 3) (cM (.str "\n")))))
 (forM (callI rngI1 (consM (cM (.int 8)) nilM)) [5] nameT turnB)))))
theorem lap_ok {env : En} (he : Ev env) (p : List D) (k : Nat) (hp : potOk k p) (hk : k + 100 ≤ 1000000) : ∃ (env' : En) (p' : List D), lapB env [.lst p] = .nx env' [.lst p'] ∧ Ev env' ∧ potOk (k + 100) p' := by
  obtain ⟨v1, v2, v3, v4, v5, v6, v7, v8, v9, v10, v11, v12, v13, v14, rfl⟩ := he
  obtain ⟨_, p1, ⟨u, H, rfl⟩, q1, r1⟩ := PT_graph [.lst p] 0 p k rfl hp (by omega)
  simp only [List.set_cons_zero] at r1
  have lg := low_graphD u
  have pr : subM x_print_graph [.lst p1] [graphD u] = .ok (.str (textS u)) [.lst p1] := sub_pure [.lst p1] (H.print []) rfl (by simp [argL, lg]) rfl
  have ll : subM x__law_lines [.lst p1] [graphD u] = .ok (.lst ((linesS u).map D.str)) [.lst p1] := sub_pure [.lst p1] (H.law_lines []) rfl (by simp [argL, lg]) (lowL_strs _)
  have rg : subM x_read_graph [.lst p1] [.str (textS u)] = .ok (graphD u) [.lst p1] := sub_pure [.lst p1] (H.read_graph []) rfl rfl lg
  have jn := (join_ok (S := [.lst p1]) (c := 10) (B := 25) (ys := linesS u) ⟨H.lens, by have := H.few; omega⟩).1
  have jt : Txt.join (mkS [10]) (linesS u) = textS u := rfl
  rw [jt, ← nl_lit] at jn
  have sp := H.split [.lst p1]
  obtain ⟨s1, a1, b1⟩ := shows_text H
  obtain ⟨s2, a2, b2⟩ := shows_graph H.gd.fit (by have := H.fe; omega)
  obtain ⟨env', p', e2, g2, q2⟩ := turns_ok H.ls ((List.range 8).map fun i : Nat => D.int (i : Int)) (fE v1 (some (graphD u)) (some (.str (textS u))) (some (.lst ((linesS u).map D.str))) v5 v6 v7 v8 v9 v10 v11 v12 v13 v14) p1 (k + 40) ⟨_, _, _, _, _, _, _, _, _, _, _, _, _, rfl⟩ q1 (by simp; omega)
  refine ⟨env', p', ?_, g2.ev, q2.le (by simp)⟩
  have hx : ([D.str "x", .str "knows"] : List D) = lbs.map D.str := rfl
  have ha : ([D.str "a", .str "bc"] : List D) = nms.map D.str := rfl
  have l2 : (lbs.map D.str).length ≤ sizeLine := by decide
  have l3 : (nms.map D.str).length ≤ sizeLine := by decide
  unfold lapB fE
  rw [seq_nx (env1 := [some (.ref 0), v1, some (graphD u), v3, v4, v5, v6, v7, v8, v9, v10, v11, v12, v13, v14]) (S1 := [.lst p1]) (by
    simp only [l_setM, l_callM, l_consM, l_varM, List.getElem?_cons_zero, R.bind_ok, l_cM, l_frzM, l_lstM, l_nilM, hx, ha, if_pos l2, if_pos l3, r1, l_R_st, List.set_cons_succ, List.set_cons_zero])]
  rw [seq_nx (env1 := [some (.ref 0), v1, some (graphD u), some (.str (textS u)), v4, v5, v6, v7, v8, v9, v10, v11, v12, v13, v14]) (S1 := [.lst p1]) (by
    simp only [l_setM, l_callM, l_consM, l_varM, List.getElem?_cons_succ, List.getElem?_cons_zero, R.bind_ok, l_nilM, pr, l_R_st, List.set_cons_succ, List.set_cons_zero])]
  rw [seq_nx (env1 := [some (.ref 0), v1, some (graphD u), some (.str (textS u)), v4, v5, v6, v7, v8, v9, v10, v11, v12, v13, v14]) (S1 := [.lst p1]) (by
    simp only [l_ifS, l_orB, l_cmpB, l_callM, l_consM, l_varM, List.getElem?_cons_succ, List.getElem?_cons_zero, R.bind_ok, l_nilM, a1, sm1, l_cM, ll, jn, (b1 _).2, Bool.false_eq_true, if_false, rg, a2, (b2 _).2, l_R_st, l_passM])]
  rw [seq_nx (env1 := [some (.ref 0), v1, some (graphD u), some (.str (textS u)), some (.lst ((linesS u).map D.str)), v5, v6, v7, v8, v9, v10, v11, v12, v13, v14]) (S1 := [.lst p1]) (by
    simp only [l_setM, l_frzM, sm1F, l_varM, List.getElem?_cons_succ, List.getElem?_cons_zero, R.bind_ok, l_cM, sp, l_R_st, List.set_cons_succ, List.set_cons_zero])]
  have hi : callI rngI1 (consM (cM (.int 8)) nilM) [some (.ref 0), v1, some (graphD u), some (.str (textS u)), some (.lst ((linesS u).map D.str)), v5, v6, v7, v8, v9, v10, v11, v12, v13, v14] [.lst p1] = .ok (.seq ((List.range 8).map fun i : Nat => D.int (i : Int))) [.lst p1] := hi2 (n := 8) rfl (by decide)
  have fm := forM_seq (is := [5]) (T := nameT) (b := turnB) hi
  rw [fm]
  exact e2
theorem laps_ok : ∀ (ds : List D) (env : En) (p : List D) (k : Nat), Ev env → potOk k p → k + 100 * ds.length ≤ 1000000 → ∃ (env' : En) (p' : List D), forL [1] nameT lapB ds env [.lst p] = .nx env' [.lst p'] ∧ Ev env' ∧ potOk (k + 100 * ds.length) p'
  | [], env, p, k, he, hp, _ => ⟨env, p, rfl, he, hp⟩
  | d :: ds, env, p, k, he, hp, hk => by
    simp only [List.length_cons] at hk
    have he1 : Ev (setE env [1] [d]) := by
      obtain ⟨v1, v2, v3, v4, v5, v6, v7, v8, v9, v10, v11, v12, v13, v14, rfl⟩ := he
      exact ⟨some d, v2, v3, v4, v5, v6, v7, v8, v9, v10, v11, v12, v13, v14, rfl⟩
    obtain ⟨env1, p1, e1, g1, q1⟩ := lap_ok he1 p k hp (by omega)
    obtain ⟨env', p', e2, g2, q2⟩ := laps_ok ds env1 p1 (k + 100) g1 q1 (by omega)
    refine ⟨env', p', ?_, g2, q2.le (by simp; omega)⟩
    rw [← e2]
    exact forL_cons (T := nameT) (xs := [d]) rfl e1
end K25
end

section
set_option Elab.async false
set_option linter.all false
set_option maxRecDepth 100000
set_option maxHeartbeats 4000000
/-! Plain law of k25, part 19: behind the laps. -/
namespace K25
open PySem PySem.Spec DL
def tokB (t : List Nat) : Bool := t.all (fun c => decide (c < 128)) && decide (t.length ≤ 1000000) && decide ((cutW 10 t).length < 400) && (cutW 10 t).all fun l => decide (l.length ≤ 60)
theorem tok_of {t : List Nat} (h : tokB t = true) : TextOk t := by
  simp only [tokB, Bool.and_eq_true, List.all_eq_true, decide_eq_true_eq] at h
  exact ⟨h.1.1.1, h.1.1.2, h.1.2, h.2⟩
def tx1 : List Str := ["", "node", "node ", "node b a", "edge 0 x 0", "node\nedge 0 x 1", "node\nedge 0 x 0\nedge 0 x 0"]
def tx2 : List Str := ["node\nnode\nedge 1 x 0"]
def nn : Str := "node\n"
def nd : Str := "node"
def tx3 : List Str := ["node\nedge 0 x 0\nnode", "node\nedge 00 x 0", Txt.mul nn 59 ++ nd, Txt.mul nn 60 ++ nd]
def tx4 : List Str := ["nodes"]
def texts : List Str := ((tx1 ++ tx2) ++ tx3) ++ tx4
theorem texts_ok : ∀ s ∈ texts, tokB (sg s) = true := by decide +kernel
theorem mul_lens : (Txt.mul nn 59).length = 295 ∧ (Txt.mul nn 60).length = 300 ∧ nd.length = 4 ∧ nn.length = 5 := by decide +kernel
theorem mulX_ok (S : Sto) {n : Int} (h : 1 < n ∧ n ≤ 60) : mulXG S (.str nn) (.int n) = .ok (.str (Txt.mul nn n)) S := by
  have h5 := mul_lens.2.2.2
  have : 1 < n ∧ 1 ≤ nn.length ∧ (nn.length : Int) * n ≤ 4000 := ⟨h.1, by omega, by rw [h5]; omega⟩
  simp only [mulXG, if_pos this]
theorem shows_of {d : D} (p : PyData) (h : ∀ S, toPy (view S d) = some p) (e : (p.showable && !p.hasDict && decide (p.depth < 60) && decide (p.shown.length ≤ sizeLine)) = true) (ok : PyData.strOk p.shown = true) : Shows d := by
  refine ⟨p.shown, fun S => ?_, fun S => str_self S ok⟩
  unfold reprG
  simp only [h S, e, if_true]
def odd1 : List D := [.non, .int 1, .lst [.str "node"], .tup [.str "node"], .bl true]
def odd2 : List D := [.non, .tup [], .tup [.tup [], .tup []], .tup [.tup [.tup []], .tup [.tup [.int 0, .str "x", .int 1]]]]
theorem odd1_shows : ∀ d ∈ odd1, Shows d := by
  intro d hd
  simp only [odd1, List.mem_cons, List.not_mem_nil, or_false] at hd
  rcases hd with rfl | rfl | rfl | rfl | rfl
  · exact shows_of .none (fun _ => rfl) (by decide +kernel) (by decide +kernel)
  · exact shows_of (.int 1) (fun _ => rfl) (by decide +kernel) (by decide +kernel)
  · exact shows_of (.list [.str "node"]) (fun _ => rfl) (by decide +kernel) (by decide +kernel)
  · exact shows_of (.tuple [.str "node"]) (fun _ => rfl) (by decide +kernel) (by decide +kernel)
  · exact shows_of (.bool true) (fun _ => rfl) (by decide +kernel) (by decide +kernel)
theorem odd2_shows : ∀ d ∈ odd2, Shows d := by
  intro d hd
  simp only [odd2, List.mem_cons, List.not_mem_nil, or_false] at hd
  rcases hd with rfl | rfl | rfl | rfl
  · exact shows_of .none (fun _ => rfl) (by decide +kernel) (by decide +kernel)
  · exact shows_of (.tuple []) (fun _ => rfl) (by decide +kernel) (by decide +kernel)
  · exact shows_of (.tuple [.tuple [], .tuple []]) (fun _ => rfl) (by decide +kernel) (by decide +kernel)
  · exact shows_of (.tuple [.tuple [.tuple []], .tuple [.tuple [.int 0, .str "x", .int 1]]]) (fun _ => rfl) (by decide +kernel) (by decide +kernel)
theorem odd_low : (∀ d ∈ odd1, lowD 0 d = true ∧ refsOf [d] = [] ∧ argN d = true) ∧ ∀ d ∈ odd2, lowD 0 d = true ∧ refsOf [d] = [] ∧ argN d = true := by decide +kernel
theorem odd1_body : ∀ d ∈ odd1, bodyM 5 b_read_graph [] [d] = .err (.exc 2 d) [] ∧ bodyM 1 b_can_be_read_as_graph [] [d] = .ok (.bl false) [] := by
  intro d hd
  simp only [odd1, List.mem_cons, List.not_mem_nil, or_false] at hd
  rcases hd with rfl | rfl | rfl | rfl | rfl <;> exact ⟨by simp [b_read_graph], by simp [b_can_be_read_as_graph]⟩
theorem odd1_read : ∀ d ∈ odd1, x_read_graph [] [d] = .err (.exc 2 d) [] ∧ x_can_be_read_as_graph [] [d] = .ok (.bl false) [] := by
  intro d hd
  obtain ⟨h1, h2⟩ := odd1_body d hd
  obtain ⟨l1, l2, l3⟩ := odd_low.1 d hd
  have la : [d].all argL = true := by simp [argL, l1]
  have le : lowD 0 (.exc 2 d) = true := by simpa [lowD] using l1
  exact ⟨subK_er (ok := argL) h1 l2 la le, subK_ok (ok := argL) h2 l2 la rfl⟩
theorem odd2_graph : ∀ d ∈ odd2, x_is_graph [] [d] = .ok (.bl false) [] := by
  intro d hd
  simp only [odd2, List.mem_cons, List.not_mem_nil, or_false] at hd
  rcases hd with rfl | rfl | rfl | rfl
  · rfl
  · rfl
  · rfl
  · rfl
theorem odd2_print : ∀ d ∈ odd2, x_print_graph [] [d] = .err (.exc 1 d) [] := by
  intro d hd
  have g := odd2_graph d hd
  obtain ⟨l1, l2, l3⟩ := odd_low.2 d hd
  have la : argL d = true := by simp [argL, l1]
  have le : lowD 0 (.exc 1 d) = true := by simpa [lowD] using l1
  have lk : x_look_at_graph [] [d] = .err (.exc 1 d) [] := by
    refine subK_er (ok := argL) (f := bodyM 1 b_look_at_graph) (S1 := []) ?_ l2 (by simp [la]) le
    simp [b_look_at_graph, g]
  refine subK_er (ok := argL) (f := bodyM 1 b_print_graph) (S1 := []) ?_ l2 (by simp [la]) le
  simp [b_print_graph, lk]
theorem heard_1 {d : D} (h : d ∈ odd1) : x__law_heard [] [.clo 1 [d]] = .ok (.tup [.exc 2 d, .non]) [] := by
  obtain ⟨l1, l2, l3⟩ := odd_low.1 d h
  exact heard_er [] (by decide) (by simp [lowL, l1]) tc_1 (z_er (by simp [y_1, (odd1_read d h).1]) l3 l2 (by simpa [lowD] using l1)) (by decide) l1
theorem heard_2 {d : D} (h : d ∈ odd2) : x__law_heard [] [.clo 2 [d]] = .ok (.tup [.exc 1 d, .non]) [] := by
  obtain ⟨l1, l2, l3⟩ := odd_low.2 d h
  exact heard_er [] (by decide) (by simp [lowL, l1]) tc_2 (z_er (by simp [y_2, odd2_print d h]) l3 l2 (by simpa [lowD] using l1)) (by decide) l1
end K25
end

section
set_option Elab.async false
set_option linter.all false
set_option maxRecDepth 100000
set_option maxHeartbeats 4000000
/-! Plain law of k25, part 20: _law_right. -/
namespace K25
open PySem PySem.Spec DL
def r_1 : FM := (setM 12 (frzM (lstM (consM (cM (.str "")) (consM (cM (.str "node")) (consM (cM (.str "node ")) (consM (cM (.str "node b a")) (consM (cM (.str "edge 0 x 0")) (consM (cM (.str "node\nedge 0 x 1")) (consM (cM (.str "node\nedge 0 x 0\nedge 0 x 0")) nilM))))))))))
def r_2 : FM := (setM 12 (op2M addA (varM 12) (frzM (lstM (consM (cM (.str "node\nnode\nedge 1 x 0")) nilM)))))
def r_3 : FM := (setM 12 (op2M addA (varM 12) (frzM (lstM (consM (cM (.str "node\nedge 0 x 0\nnode")) (consM (cM (.str "node\nedge 00 x 0")) (consM (op2M addA (op2M mulXG (cM (.str "node\n")) (cM (.int 59))) (cM (.str "node"))) (consM (op2M addA (op2M mulXG (cM (.str "node\n")) (cM (.int 60))) (cM (.str "node"))) nilM))))))))
def r_4 : FM := (setM 12 (op2M addA (varM 12) (frzM (lstM (consM (cM (.str "nodes")) nilM)))))
def r_5 : FM := (ifS (notB (tstM (callM allG (consM (frzM (lcM (seqI (varM 12)) [3] [3] nameT tYesM (callM (subM x__law_is_text_right) (consM (varM 3) nilM)))) nilM)))) (retM (cM (.bl false))) passM)
def r_6 : FM := (setM 13 (callM (subM x__law_of) (consM (varM 0) (consM (frzM (lstM (consM (cM .non) (consM (cM (.int 1)) (consM (frzM (lstM (consM (cM (.str "node")) nilM))) (consM (tupM (consM (cM (.str "node")) nilM)) (consM (cM (.bl true)) nilM))))))) nilM))))
def r_7 : FM := (setM 14 (op2M idxG (callO x__law_heard cap__law_right (consM (cloM 1) nilM)) (cM (.int 0))))
def r_8 : FM := (ifS (orB (notB (tstM (isxM [false, false, true, false] (varM 14)))) (orB (cmpB neG (callM reprG (consM (fldM 4 (varM 14)) nilM)) (callM reprG (consM (varM 13) nilM))) (cmpB nisG (callM (subM x_can_be_read_as_graph) (consM (varM 13) nilM)) (cM (.bl false))))) (retM (cM (.bl false))) passM)
def r_9 : FM := (setM 13 (callM (subM x__law_of) (consM (varM 0) (consM (frzM (lstM (consM (cM .non) (consM (tupM nilM) (consM (tupM (consM (tupM nilM) (consM (tupM nilM) nilM))) (consM (tupM (consM (tupM (consM (tupM nilM) nilM)) (consM (tupM (consM (tupM (consM (cM (.int 0)) (consM (cM (.str "x")) (consM (cM (.int 1)) nilM)))) nilM)) nilM))) nilM)))))) nilM))))
def r_10 : FM := (setM 14 (op2M idxG (callO x__law_heard cap__law_right (consM (cloM 2) nilM)) (cM (.int 0))))
def r_11 : FM := (retM (andM (isxM [false, true, false, false] (varM 14)) (valM (cmpB eqG (callM reprG (consM (fldM 4 (varM 14)) nilM)) (callM reprG (consM (varM 13) nilM))))))
theorem right_eq : b__law_right = seqM (forM (callI rngI1 (consM (cM (.int 8)) nilM)) [1] nameT lapB) (seqM r_1 (seqM r_2 (seqM r_3 (seqM r_4 (seqM r_5 (seqM r_6 (seqM r_7 (seqM r_8 (seqM r_9 (seqM r_10 r_11)))))))))) := rfl

section
variable (v1 v2 v3 v4 v5 v6 v7 v8 v9 v10 v11 v12 v13 v14 : Option D)
theorem r1_ok (S : Sto) : r_1 (fE v1 v2 v3 v4 v5 v6 v7 v8 v9 v10 v11 v12 v13 v14) S = .nx (fE v1 v2 v3 v4 v5 v6 v7 v8 v9 v10 v11 (some (.lst (tx1.map D.str))) v13 v14) S := by
  simp [r_1, fE, tx1]
theorem r2_ok (S : Sto) : r_2 (fE v1 v2 v3 v4 v5 v6 v7 v8 v9 v10 v11 (some (.lst (tx1.map D.str))) v13 v14) S = .nx (fE v1 v2 v3 v4 v5 v6 v7 v8 v9 v10 v11 (some (.lst ((tx1 ++ tx2).map D.str))) v13 v14) S := by
  have a := add_lst S (a := tx1.map D.str) (b := tx2.map D.str) (by decide)
  have e : ([D.str "node\nnode\nedge 1 x 0"] : List D) = tx2.map D.str := rfl
  rw [← List.map_append] at a
  unfold r_2 fE
  generalize (tx1 ++ tx2).map D.str = L at *
  generalize tx1.map D.str = L1 at *
  simp only [l_setM, l_op2M, l_varM, l_frzM, l_lstM, l_consM, l_cM, l_nilM, List.getElem?_cons_succ, List.getElem?_cons_zero, R.bind_ok, e]
  rw [if_pos (by decide)]
  simp only [R.bind_ok, a, l_R_st, List.set_cons_succ, List.set_cons_zero]
theorem r3_ok (S : Sto) : r_3 (fE v1 v2 v3 v4 v5 v6 v7 v8 v9 v10 v11 (some (.lst ((tx1 ++ tx2).map D.str))) v13 v14) S = .nx (fE v1 v2 v3 v4 v5 v6 v7 v8 v9 v10 v11 (some (.lst (((tx1 ++ tx2) ++ tx3).map D.str))) v13 v14) S := by
  have a := add_lst S (a := (tx1 ++ tx2).map D.str) (b := tx3.map D.str) (by decide)
  have m1 := mulX_ok S (n := 59) (by decide)
  have m2 := mulX_ok S (n := 60) (by decide)
  obtain ⟨q1, q2, q3, q4⟩ := mul_lens
  have a1 := add_str S (a := Txt.mul nn 59) (b := nd) (by omega)
  have a2 := add_str S (a := Txt.mul nn 60) (b := nd) (by omega)
  have e : ([D.str "node\nedge 0 x 0\nnode", .str "node\nedge 00 x 0", .str (Txt.mul nn 59 ++ nd), .str (Txt.mul nn 60 ++ nd)] : List D) = tx3.map D.str := rfl
  have l3 : (tx3.map D.str).length ≤ sizeLine := by decide
  rw [← List.map_append] at a
  unfold r_3 fE
  generalize ((tx1 ++ tx2) ++ tx3).map D.str = L at *
  generalize (tx1 ++ tx2).map D.str = L1 at *
  rw [show ("node\n" : Str) = nn from rfl, show ("node" : Str) = nd from rfl]
  simp only [l_setM, l_op2M, l_varM, l_frzM, l_lstM, l_consM, l_cM, l_nilM, List.getElem?_cons_succ, List.getElem?_cons_zero, R.bind_ok, m1, m2, a1, a2, e, if_pos l3, a, l_R_st, List.set_cons_succ, List.set_cons_zero]
theorem r4_ok (S : Sto) : r_4 (fE v1 v2 v3 v4 v5 v6 v7 v8 v9 v10 v11 (some (.lst (((tx1 ++ tx2) ++ tx3).map D.str))) v13 v14) S = .nx (fE v1 v2 v3 v4 v5 v6 v7 v8 v9 v10 v11 (some (.lst (texts.map D.str))) v13 v14) S := by
  have a := add_lst S (a := ((tx1 ++ tx2) ++ tx3).map D.str) (b := tx4.map D.str) (by decide)
  have e : ([D.str "nodes"] : List D) = tx4.map D.str := rfl
  rw [← List.map_append] at a
  rw [show texts = ((tx1 ++ tx2) ++ tx3) ++ tx4 from rfl]
  unfold r_4 fE
  generalize (((tx1 ++ tx2) ++ tx3) ++ tx4).map D.str = L at *
  generalize ((tx1 ++ tx2) ++ tx3).map D.str = L1 at *
  simp only [l_setM, l_op2M, l_varM, l_frzM, l_lstM, l_consM, l_cM, l_nilM, List.getElem?_cons_succ, List.getElem?_cons_zero, R.bind_ok, e]
  rw [if_pos (by decide)]
  simp only [R.bind_ok, a, l_R_st, List.set_cons_succ, List.set_cons_zero]
theorem r5_ok (S : Sto) : r_5 (fE v1 v2 v3 v4 v5 v6 v7 v8 v9 v10 v11 (some (.lst (texts.map D.str))) v13 v14) S = .nx (fE v1 v2 v3 v4 v5 v6 v7 v8 v9 v10 v11 (some (.lst (texts.map D.str))) v13 v14) S := by
  have e := lcM_map (S0 := S) (S := S) (env := fE v1 v2 v3 v4 v5 v6 v7 v8 v9 v10 v11 (some (.lst (texts.map D.str))) v13 v14) (mi := seqI (varM 12)) (j := 3) (me := callM (subM x__law_is_text_right) (consM (varM 3) nilM)) (ds := texts.map D.str) (fun _ => .bl true) rfl (fun d hd => by
    obtain ⟨s, hs, rfl⟩ := List.mem_map.mp hd
    have tr := text_right [] (tok_of (texts_ok s hs))
    rw [mk_sg] at tr
    have := sub_pure S tr rfl rfl rfl
    show callM (subM x__law_is_text_right) (consM (varM 3) nilM) (fE v1 v2 (some (.str s)) v4 v5 v6 v7 v8 v9 v10 v11 (some (.lst (texts.map D.str))) v13 v14) S = _
    unfold fE
    simp only [l_callM, l_consM, l_varM, List.getElem?_cons_succ, List.getElem?_cons_zero, R.bind_ok, l_nilM, this]) (by decide)
  have a := all_one S (texts.map D.str)
  have ef := frz_eq e
  unfold r_5
  simp only [l_ifS, l_notB, l_tstM, l_callM, l_consM, ef, R.bind_ok, l_nilM, a, l_truB, truth, Bool.not_true, l_R_st, Bool.false_eq_true, if_false, l_passM]
theorem r6_ok (p : List D) (k : Nat) (hp : potOk k p) (hk : k + 1 ≤ 1000000) : ∃ d p', r_6 (fE v1 v2 v3 v4 v5 v6 v7 v8 v9 v10 v11 v12 v13 v14) [.lst p] = .nx (fE v1 v2 v3 v4 v5 v6 v7 v8 v9 v10 v11 v12 (some d) v14) [.lst p'] ∧ d ∈ odd1 ∧ potOk (k + 1) p' := by
  obtain ⟨d, p', e1, e2, e3⟩ := PT_of odd1 (by decide) (by decide) rfl [.lst p] 0 p k rfl hp hk
  simp only [List.set_cons_zero] at e3
  refine ⟨d, p', ?_, e1, e2⟩
  simp only [odd1] at e3
  simp [r_6, fE, e3]
theorem r9_ok (p : List D) (k : Nat) (hp : potOk k p) (hk : k + 1 ≤ 1000000) : ∃ d p', r_9 (fE v1 v2 v3 v4 v5 v6 v7 v8 v9 v10 v11 v12 v13 v14) [.lst p] = .nx (fE v1 v2 v3 v4 v5 v6 v7 v8 v9 v10 v11 v12 (some d) v14) [.lst p'] ∧ d ∈ odd2 ∧ potOk (k + 1) p' := by
  obtain ⟨d, p', e1, e2, e3⟩ := PT_of odd2 (by decide) (by decide) rfl [.lst p] 0 p k rfl hp hk
  simp only [List.set_cons_zero] at e3
  refine ⟨d, p', ?_, e1, e2⟩
  simp only [odd2] at e3
  simp [r_9, fE, e3]
theorem par_pot {p : List D} (h : lowL 0 p = true) : ([.lst p] : Sto).all parO = true := by simp [parO, low_parL p h]
theorem r7_ok (p : List D) (h : lowL 0 p = true) {d : D} (hd : d ∈ odd1) : r_7 (fE v1 v2 v3 v4 v5 v6 v7 v8 v9 v10 v11 v12 (some d) v14) [.lst p] = .nx (fE v1 v2 v3 v4 v5 v6 v7 v8 v9 v10 v11 v12 (some d) (some (.exc 2 d))) [.lst p] := by
  obtain ⟨l1, _, _⟩ := odd_low.1 d hd
  have ho := hearsO (f := cap__law_right) (ms := consM (cloM 1) nilM) (env := fE v1 v2 v3 v4 v5 v6 v7 v8 v9 v10 v11 v12 (some d) v14) (S := [.lst p]) (k := 1) (js := [13]) (es := [d]) rfl rfl rfl (by decide) (by simp [lowL, l1]) (heard_1 hd) (by simp [lowD, lowL, l1]) (par_pot h)
  unfold r_7
  simp only [l_setM, l_op2M, ho, R.bind_ok, l_cM, idx_0, l_R_st]
  rfl
theorem r10_ok (p : List D) (h : lowL 0 p = true) {d : D} (hd : d ∈ odd2) : r_10 (fE v1 v2 v3 v4 v5 v6 v7 v8 v9 v10 v11 v12 (some d) v14) [.lst p] = .nx (fE v1 v2 v3 v4 v5 v6 v7 v8 v9 v10 v11 v12 (some d) (some (.exc 1 d))) [.lst p] := by
  obtain ⟨l1, _, _⟩ := odd_low.2 d hd
  have ho := hearsO (f := cap__law_right) (ms := consM (cloM 2) nilM) (env := fE v1 v2 v3 v4 v5 v6 v7 v8 v9 v10 v11 v12 (some d) v14) (S := [.lst p]) (k := 2) (js := [13]) (es := [d]) rfl rfl rfl (by decide) (by simp [lowL, l1]) (heard_2 hd) (by simp [lowD, lowL, l1]) (par_pot h)
  unfold r_10
  simp only [l_setM, l_op2M, ho, R.bind_ok, l_cM, idx_0, l_R_st]
  rfl
theorem r8_ok (S : Sto) {d : D} (hd : d ∈ odd1) : r_8 (fE v1 v2 v3 v4 v5 v6 v7 v8 v9 v10 v11 v12 (some d) (some (.exc 2 d))) S = .nx (fE v1 v2 v3 v4 v5 v6 v7 v8 v9 v10 v11 v12 (some d) (some (.exc 2 d))) S := by
  obtain ⟨s, a, b⟩ := odd1_shows d hd
  obtain ⟨l1, l2, _⟩ := odd_low.1 d hd
  have cb := sub_pure S (odd1_read d hd).2 l2 (by simp [argL, l1]) rfl
  have ig : isG S (.bl false) (.bl false) = .ok true S := rfl
  unfold r_8 fE
  simp [isxM, fldM, a, (b S).2, cb, nisG, ig]
theorem r11_ok (S : Sto) {d : D} (hd : d ∈ odd2) : r_11 (fE v1 v2 v3 v4 v5 v6 v7 v8 v9 v10 v11 v12 (some d) (some (.exc 1 d))) S = .rt (.bl true) S := by
  obtain ⟨s, a, b⟩ := odd2_shows d hd
  unfold r_11 fE
  simp [isxM, fldM, a, (b S).1]
end
theorem right_ok : PT x__law_right [] 1000 (· = .bl true) := by
  refine PT.body' rfl rfl fun p k hp hk => ?_
  have E0 : Ev (fE none none none none none none none none none none none none none none) := ⟨_, _, _, _, _, _, _, _, _, _, _, _, _, _, rfl⟩
  obtain ⟨E1, p1, e1, F1, k1⟩ := laps_ok ((List.range 8).map fun i : Nat => D.int (i : Int)) _ p k E0 hp (by simp; omega)
  have hi : callI rngI1 (consM (cM (.int 8)) nilM) (fE none none none none none none none none none none none none none none) [.lst p] = .ok (.seq ((List.range 8).map fun i : Nat => D.int (i : Int))) [.lst p] := hi2 (n := 8) rfl (by decide)
  have e0 := (forM_seq (is := [1]) (T := nameT) (b := lapB) hi).trans e1
  have k1 : potOk (k + 800) p1 := k1.le (by simp)
  obtain ⟨v1, v2, v3, v4, v5, v6, v7, v8, v9, v10, v11, v12, v13, v14, rfl⟩ := F1
  obtain ⟨d1, p2, e6, m1, k2⟩ := r6_ok v1 v2 v3 v4 v5 v6 v7 v8 v9 v10 v11 (some (.lst (texts.map D.str))) v13 v14 p1 (k + 800) k1 (by omega)
  obtain ⟨d2, p3, e9, m2, k3⟩ := r9_ok v1 v2 v3 v4 v5 v6 v7 v8 v9 v10 v11 (some (.lst (texts.map D.str))) (some d1) (some (.exc 2 d1)) p2 (k + 801) k2 (by omega)
  refine ⟨.bl true, [.lst p3], p3, ?_, rfl, k3.le (by omega), rfl, rfl⟩
  refine body_rt (env := fE none none none none none none none none none none none none none none) rfl ?_
  rw [right_eq, seq_nx e0, seq_nx (r1_ok ..), seq_nx (r2_ok ..), seq_nx (r3_ok ..), seq_nx (r4_ok ..), seq_nx (r5_ok ..), seq_nx e6, seq_nx (r7_ok _ _ _ _ _ _ _ _ _ _ _ _ _ p2 k2.low m1), seq_nx (r8_ok _ _ _ _ _ _ _ _ _ _ _ _ [.lst p2] m1), seq_nx e9, seq_nx (r10_ok _ _ _ _ _ _ _ _ _ _ _ _ _ p3 k3.low m2)]
  exact r11_ok _ _ _ _ _ _ _ _ _ _ _ _ [.lst p3] m2
end K25
end

section
set_option Elab.async false
set_option linter.all false
set_option maxRecDepth 100000
set_option maxHeartbeats 4000000
/-! Plain law of k25, part 21: the whole law. -/
namespace K25
open PySem PySem.Spec PyProof.Rows L2 DL
/-- the script as a list -/
def ScrD (d : D) (ns : List Int) : Prop := d = .lst (ns.map D.int) ∨ d = .scr (ns.map D.int)
theorem low_ints (ns : List Int) : lowL 0 (ns.map D.int) = true := lowL_all.mpr fun d hd => by
  obtain ⟨x, _, rfl⟩ := List.mem_map.mp hd
  rfl
section
variable {d : D} {ns : List Int} (h : ScrD d ns)
include h
theorem ScrD.asL (S : Sto) : asL S d = some (ns.map D.int) := by rcases h with rfl | rfl <;> rfl
theorem ScrD.asS (S : Sto) : asS S d = some (ns.map D.int) := by rcases h with rfl | rfl <;> rfl
theorem ScrD.len (S : Sto) : lenG S [d] = .ok (.int ns.length) S := by rcases h with rfl | rfl <;> simp [lenG, DL.asS, DL.asL]
theorem ScrD.argL : argL d = true := by
  have := low_ints ns
  rcases h with rfl | rfl <;> simp [DL.argL, lowD, this]
theorem ScrD.refs : refsOf [d] = [] := by rcases h with rfl | rfl <;> rfl
theorem cells_ok (S : Sto) : ∃ m : Nat, m ≤ 3 ∧ x__law_cells S [d, .int 3] = .ok (.lst ((List.range m).map fun i : Nat => D.int (i : Int))) S := by
  have hl := h.len []
  refine ⟨max 1 (min 3 ns.length), by omega, ?_⟩
  have hr : rngF1 [] [.int ((max 1 (min 3 ns.length) : Nat) : Int)] = .ok ((List.range (max 1 (min 3 ns.length))).map fun i : Nat => D.int (i : Int)) [] := by
    have hc : (0 : Int) ≤ ((max 1 (min 3 ns.length) : Nat) : Int) ∧ ((max 1 (min 3 ns.length) : Nat) : Int) ≤ 16777216 := by omega
    simp only [rngF1, if_pos hc, rngD]
    have e1 : (((max 1 (min 3 ns.length) : Nat) : Int) - 0).toNat = max 1 (min 3 ns.length) := by omega
    rw [e1]
    congr 1
    refine List.map_congr_left fun i _ => ?_
    simp
  have hm : min2G [] [.int 3, .int ns.length] = .ok (.int ((min 3 ns.length : Nat) : Int)) [] := by
    simp only [min2G]
    congr 2
    split <;> omega
  have hx : max2G [] [.int 1, .int ((min 3 ns.length : Nat) : Int)] = .ok (.int ((max 1 (min 3 ns.length) : Nat) : Int)) [] := by
    simp only [max2G]
    congr 2
    split <;> omega
  have hL := lowL_ints (List.range (max 1 (min 3 ns.length)))
  generalize ((List.range (max 1 (min 3 ns.length))).map fun i : Nat => D.int (i : Int)) = L at hr hL ⊢
  refine subK_ok (ok := DL.argL) (S1 := []) (ds := [d, .int 3]) ?_ (by rcases h with rfl | rfl <;> rfl) (by simp [h.argL, argL_int]) hL
  generalize ((max 1 (min 3 ns.length) : Nat) : Int) = A at hr hx
  generalize ((min 3 ns.length : Nat) : Int) = B at hm hx
  simp [b__law_cells, hl, hm, hx, hr]
end
theorem pow_ok (S : Sto) {i j : Int} {k : Nat} (h : i.natAbs < 2 ^ k) (h0 : 0 ≤ j) (hk : (k : Int) * j ≤ 134217728) : powG S (.int i) (.int j) = .ok (.int (i ^ j.toNat)) S := by
  have h1 := bits_le h
  have h2 : (Builtin.Int.intBits i : Int) * j ≤ (k : Int) * j := Int.mul_le_mul_of_nonneg_right (by omega) h0
  have h3 : cPow i j = true := decide_eq_true ⟨h0, by omega⟩
  simp only [powG, intG, h3, if_true]
def big : Int := (10 ^ 60) ^ 5
theorem pot_ok {d : D} {ns : List Int} (h : ScrD d ns) (S : Sto) (i : Nat) (hi : i ≤ 3) : ∃ p : List D, potOk 0 p ∧ x__law_pot S [d, .int (i : Int)] = .ok (.ref S.length) (S ++ [.lst p]) := by
  have hl := h.len S
  -- the cell
  obtain ⟨cell, hc⟩ : ∃ cell : Int, (ifM (cmpB ltG (varM 1) (callM lenG (consM (varM 0) nilM))) (op2M idxG (varM 0) (varM 1)) (op2M addA (op2M addA (op2M modG (callM intCG (consM (callM sumG (consM (sliM sliG (varM 0) noneM (partM (cM (.int 1)))) nilM)) nilM)) (cM (.int 1000211))) (op2M mulG (cM (.int 4639)) (varM 1))) (cM (.int 3163)))) [some d, some (.int (i : Int)), none, none, none] S = .ok (.int cell) S := by
    by_cases hlt : i < ns.length
    · have hlt' : (i : Int) < (ns.length : Int) := by omega
      have e : idxG S d (.int (i : Int)) = .ok (.int ns[i]) S := by
        have h3 : (0 : Int) ≤ (i : Int) := by omega
        have h4 : (i : Int) < ((ns.map D.int).length : Int) := by simpa using hlt'
        have h5 : (ns.map D.int)[i]? = some (.int ns[i]) := by simp [hlt]
        rcases h with rfl | rfl <;> simp only [idxG, DL.asS, DL.asL, L2.atI, L2.ixN, if_pos h3, if_pos h4, Option.bind_some, Int.toNat_natCast, h5]
      exact ⟨ns[i], by simp [hl, ordG, hlt, e]⟩
    · have hlt' : ¬ (i : Int) < (ns.length : Int) := by omega
      have e1 : sliG S d none (some 1) = .ok (.lst ((ns.take 1).map D.int)) S := by
        have : DL.cutD (ns.map D.int) none (some 1) = (ns.take 1).map D.int := by
          cases ns <;> simp [DL.cutD, HT.sIx]
        rcases h with rfl | rfl <;> simp only [sliG, DL.asL, this]
      have e2 : sumG S [.lst ((ns.take 1).map D.int)] = .ok (.int (ns.take 1).sum) S := by
        have : intsOf ((ns.take 1).map D.int) = some (ns.take 1) := by
          cases ns <;> simp [intsOf]
        simp only [sumG, DL.asL, this]
      have e3 := mod_ok S (ns.take 1).sum (j := 1000211) (by decide)
      have e4 : mulG S (.int 4639) (.int (i : Int)) = .ok (.int (4639 * (i : Int))) S := mul_ok S (k := 20) (l := 10) (by decide) (by omega) (by decide)
      generalize (ns.take 1).map D.int = L at e1 e2
      exact ⟨_, by simp [hl, ordG, hlt, e1, e2, e3, e4]; rfl⟩
  have a1 : absG S [.int cell] = .ok (.int (if cell < 0 then -cell else cell)) S := rfl
  generalize (if cell < 0 then -cell else cell) = A at a1
  have a2 : powG S (.int 10) (.int 60) = .ok (.int (10 ^ 60)) S := pow_ok S (k := 10) (by decide) (by decide) (by decide)
  have a3 : powG S (.int (10 ^ 60)) (.int 5) = .ok (.int big) S := pow_ok S (k := 200) (by decide) (by decide) (by decide)
  have a4 := mod_ok S A (j := big) (by decide)
  have a5 := fmod_rng (x := A) (u := big) (by decide)
  have hbig : big < 2 ^ 1000 := by decide
  generalize A.fmod big = O at a4 a5
  have a6 : powG S (.int 10) (.int 18) = .ok (.int (10 ^ 18)) S := pow_ok S (k := 10) (by decide) (by decide) (by decide)
  have hK : ∃ kk : Int, geG S (.int A) (.int (10 ^ 18)) = .ok (decide ((10 ^ 18 : Int) ≤ A)) S ∧ intCG S [.bl (decide ((10 ^ 18 : Int) ≤ A))] = .ok (.int kk) S ∧ 0 ≤ kk ∧ kk ≤ 1 := ⟨if decide ((10 ^ 18 : Int) ≤ A) then 1 else 0, rfl, rfl, by split <;> decide, by split <;> decide⟩
  obtain ⟨kk, k1, k2, k3, k4⟩ := hK
  generalize decide ((10 ^ 18 : Int) ≤ A) = B at k1 k2
  have a7 : mulG S (.int O) (.int kk) = .ok (.int (O * kk)) S := mul_ok S (k := 1000) (l := 2) (by omega) (by omega) (by decide)
  have hOk : 0 ≤ O * kk := Int.mul_nonneg a5.1 k3
  generalize O * kk = V at a7 hOk
  have b1 := mod_ok S cell (j := 2305843009213693951) (by decide)
  have b2 := fmod_rng (x := cell) (u := 2305843009213693951) (by decide)
  generalize cell.fmod 2305843009213693951 = W at b1 b2
  have b3 : mulG S (.int W) (.int 72161) = .ok (.int (W * 72161)) S := mul_ok S (k := 61) (l := 20) (by omega) (by decide) (by decide)
  have b4 : mulG S (.int 10853) (.int (i : Int)) = .ok (.int (10853 * (i : Int))) S := mul_ok S (k := 20) (l := 10) (by decide) (by omega) (by decide)
  have b5 : mulG S (.int (10853 * (i : Int))) (.int (i : Int)) = .ok (.int (10853 * (i : Int) * (i : Int))) S := mul_ok S (k := 30) (l := 10) (by omega) (by omega) (by decide)
  generalize (10 : Int) ^ 60 = P60 at a2 a3
  generalize (10 : Int) ^ 18 = P18 at a6 k1
  obtain ⟨X, hX⟩ : ∃ X, X = W * 72161 + 10853 * (i : Int) * (i : Int) + 2843 := ⟨_, rfl⟩
  have b6 := mod_ok S X (j := 2305843009213693921) (by decide)
  have b7 := fmod_rng (x := X) (u := 2305843009213693921) (by decide)
  generalize hY : X.fmod 2305843009213693921 = Y at b6 b7
  refine ⟨[.int V, .int Y, .int 0], ⟨V, Y, 0, rfl, hOk, b7.1, by omega, Int.le_refl _, by decide⟩, ?_⟩
  have c1 : (setM 2 (ifM (cmpB ltG (varM 1) (callM lenG (consM (varM 0) nilM))) (op2M idxG (varM 0) (varM 1)) (op2M addA (op2M addA (op2M modG (callM intCG (consM (callM sumG (consM (sliM sliG (varM 0) noneM (partM (cM (.int 1)))) nilM)) nilM)) (cM (.int 1000211))) (op2M mulG (cM (.int 4639)) (varM 1))) (cM (.int 3163))))) [some d, some (.int (i : Int)), none, none, none] S = .nx [some d, some (.int (i : Int)), some (.int cell), none, none] S := by
    unfold setM
    rw [hc]
    rfl
  refine body_rt (env := [some d, some (.int (i : Int)), none, none, none]) rfl ?_
  unfold b__law_pot
  rw [seq_nx c1]
  rw [seq_nx (env1 := [some d, some (.int (i : Int)), some (.int cell), some (.int V), none]) (S1 := S) (by simp [a1, a2, a3, a4, a6, k1, k2, a7])]
  rw [seq_nx (env1 := [some d, some (.int (i : Int)), some (.int cell), some (.int V), some (.int W)]) (S1 := S) (by simp [b1])]
  simp [b3, b4, b5, ← hX, b6]
/-! ### the law -/
theorem all_true {env : En} {mi : En → Sto → R Wk} {me : En → Sto → R D} {S S0 : Sto} (ds : List D) (hi : mi env S = .ok (.seq ds) S0) (hl : ds.length ≤ 1000) (h : ∀ d ∈ ds, ∀ S, ∃ S', me ((env.set 1 none).set 1 (some d)) S = .ok (.bl true) S') :
    ∃ S1, lcM mi [1] [1] nameT tYesM me env S = .ok (ds.map fun _ => .bl true) S1 := by
  have key : ∀ (l acc : List D) (S : Sto), (∀ d ∈ l, d ∈ ds) → acc.length + l.length ≤ 1000 → ∃ S1, lcL (env.set 1 none) [1] nameT tYesM me l acc S = .ok (acc ++ l.map fun _ => .bl true) S1 := by
    intro l
    induction l with
    | nil => intro acc S _ _; exact ⟨S, by simp [lcL]⟩
    | cons d l ih =>
      intro acc S hm hz
      simp only [List.length_cons] at hz
      obtain ⟨S', e⟩ := h d (hm d (by simp)) S
      obtain ⟨S1, e1⟩ := ih (acc ++ [.bl true]) S' (fun x hx => hm x (List.mem_cons_of_mem _ hx)) (by simp; omega)
      refine ⟨S1, ?_⟩
      rw [lcL_t (T := nameT) (xs := [d]) rfl rfl e (sizeLine_ge' (by omega)), e1]
      simp
  obtain ⟨S1, e⟩ := key ds [] S0 (fun _ h => h) (by simpa using hl)
  refine ⟨S1, ?_⟩
  unfold lcM
  rw [hi, R.bind_ok]
  exact (lcK_seq (all := ds) ds 0 [] S0 rfl).trans e
theorem law_true {d : D} {ns : List Int} (h : ScrD d ns) : x_law [] [d] = .ok (.bl true) [] := by
  obtain ⟨m, hm, e⟩ := cells_ok h []
  have hi : seqI (callM x__law_cells (consM (varM 0) (consM (cM (.int 3)) nilM))) [some d, none] [] = .ok (.seq ((List.range m).map fun i : Nat => D.int (i : Int))) [] := by
    generalize ((List.range m).map fun i : Nat => D.int (i : Int)) = L at e ⊢
    simp [e, walkO]
  obtain ⟨S1, r⟩ := all_true (me := callM x__law_right (consM (callM x__law_pot (consM (varM 0) (consM (varM 1) nilM))) nilM)) _ hi (by simp; omega) (fun x hx S => by
    obtain ⟨i, hi, rfl⟩ := List.mem_map.mp hx
    have hi := List.mem_range.mp hi
    obtain ⟨p, hp, e1⟩ := pot_ok h S i (by omega)
    obtain ⟨dd, p', rfl, _, e2⟩ := right_ok (S ++ [.lst p]) S.length p 0 (by simp) hp (by decide)
    refine ⟨(S ++ [O.lst p]).set S.length (.lst p'), ?_⟩
    generalize ((i : Nat) : Int) = I at e1 ⊢
    simp only [callM, consM, nilM, varM, List.set_cons_succ, List.set_cons_zero, List.getElem?_cons_succ, List.getElem?_cons_zero, R.bind_ok, e1, e2])
  have hr := frz_eq r
  have e3 := allG_map S1 (fun _ : D => true) ((List.range m).map fun i : Nat => D.int (i : Int))
  rw [List.all_eq_true.mpr fun _ _ => rfl] at e3
  refine subK_ok (ok := argL) (S1 := S1) (ds := [d]) ?_ h.refs (by simp [h.argL]) rfl
  refine body_rt (env := [some d, none]) rfl ?_
  generalize ((List.range m).map fun i : Nat => D.int (i : Int)).map (fun _ => D.bl true) = L at hr e3
  simp only [b_law, retM, callM, consM, nilM] at *
  rw [hr]
  simp only [R.bind_ok, e3, R.st]
theorem law_plain (ns : List Int) : Plain x_law ns := ⟨⟨[], law_true (.inl rfl)⟩, ⟨[], law_true (.inr rfl)⟩⟩
end K25
end

theorem PySem.Challenge.cw_sameoneverygraph_k25_whole_graphs_as_tex_holds : PySem.Challenge.rw_sameoneverygraph_k25_whole_graphs_as_tex.Holds := by
  exact K25H.law_holds fun ns _ => K25.law_plain ns
