import PyProof.Rows.All
import Wide.All
import OpenK.AllK
import Wide.FinOn
import KE.KStateDown
import HandS.ForMost
import HandS.More
import HandS.Exc
import HandS.Defaults
import HandS.Head0
import HandS.Head1
import HandS.Head2
import HandS.HeadEnd
import HandS.HeadHook1
import HandS.HeadHook2
import PySem.Challenge.RW_visiblerows_k06_whole_words_that_are_not
import HandS.WordsExc
import HandS.ExcOwn
import HandS.Flow
import HandS.IsInst
import HandS.Deep
import HandS.TupAny
import HandS.Zip
import HandS.TupMul
import HandS.Set
import HandS.Strs
import HandS.TupSets
import KE.SortData
import HandS.Text
import KE.DataFind
import KE.DatumIndex
import HandS.Style
import HandS.Walk
import KE.GoesMore
import HandS.Property
import OpenK.KOps
import KE.KOpsOwn
import HandS.NoneIn
import HandS.Conv
import HandS.Codes
import PyProof.StrLawsTight
import PyProof.StrLawsChain
import PyProof.Rows.StrItems
set_option Elab.async false
set_option linter.all false
set_option maxRecDepth 100000
set_option maxHeartbeats 0
/-! Data, what stands for data in the heap, worlds, slots. -/
namespace Vr
open PySem PySem.Spec PyProof.Rows L2

/-- data -/
inductive Dt where
  | non | bl (b : Bool) | int (i : Int) | str (s : Str) | tup (ds : List Dt) | lst (ds : List Dt) | hdl (k : Nat) | dct (kvs : List (Dt × Dt))
instance : Inhabited Dt := ⟨.non⟩

/-- a tuple whose object is known to have no dict of its own -/
def SqD (K : PySem.W.Frag) (H : Hp) (a : Addr) (vs : List V) : Prop :=
  (∃ ob : Obj, H a = some (.frz ob (.tup vs)) ∧ ob.dict = none) ∨
    ∃ (o : Obj) (its : Array Value) (n : Nat), K.lookup a = some o ∧ o.cls = .type "tuple" ∧ o.dict = none ∧ o.data = .seq its n ∧ its.size ≤ sizeLine ∧ Vals vs its.toList
theorem SqD.sq {K : PySem.W.Frag} {H : Hp} {a : Addr} {vs : List V} (h : SqD K H a vs) : SqT K H a vs := by
  rcases h with ⟨ob, h, _⟩ | ⟨o, its, n, h1, h2, _, h3, h4, h5⟩
  · exact .inl (.inr ⟨ob, h⟩)
  · exact .inr ⟨o, its, n, h1, h2, h3, h4, h5⟩
theorem SqD.same {K : PySem.W.Frag} {H H' : Hp} {a : Addr} {vs : List V} (e : Same H H') (h : SqD K H a vs) : SqD K H' a vs := by
  rcases h with ⟨ob, h, hd⟩ | h
  · exact .inl ⟨ob, e _ _ h, hd⟩
  · exact .inr h

/-- a world: where the resources stand, the frozen part, the heap -/
structure Wl where
  ad : List Addr
  f : Hp
  h : Hp

mutual
/-- v stands for the datum in the frozen part -/
inductive Rep (K : PySem.W.Frag) (W : Wl) : V → Dt → Prop
  | non : Rep K W .non .non
  | bl (b : Bool) : Rep K W (.bl b) (.bl b)
  | int (i : Int) : Rep K W (.int i) (.int i)
  | str (x : Str) (h : x.length ≤ sizeLine) : Rep K W (.str x) (.str x)
  | tup {a : Addr} {vs : List V} {ds : List Dt} : SqD K W.f a vs → RepL K W vs ds → Rep K W (.ref a) (.tup ds)
  | lst {a : Addr} {vs : List V} {ds : List Dt} : SqL K W.f a vs → RepL K W vs ds → Rep K W (.ref a) (.lst ds)
  | hdl {a : Addr} {k : Nat} : W.ad[k]? = some a → Rep K W (.ref a) (.hdl k)
inductive RepL (K : PySem.W.Frag) (W : Wl) : List V → List Dt → Prop
  | nil : RepL K W [] []
  | cons {v : V} {d : Dt} {vs : List V} {ds : List Dt} : Rep K W v d → RepL K W vs ds → RepL K W (v :: vs) (d :: ds)
end

/-- a resource: what may change -/
inductive Rs where
  | deck (n : Nat)
  | obj (c : Str) (fs : List (Str × Dt))
  | dct (kvs : List (Str × Str))
abbrev Store := List Rs
/-- the greatest count of a deck -/
abbrev deckTop : Nat := 68719476736
/-- a deck that may be drawn from n times -/
def DeckOk (H : Hp) (a : Addr) (n : Nat) : Prop := ∃ x y c : Int, H a = some (.lst [.int x, .int y, .int c]) ∧ 0 ≤ y ∧ y < 2147483579 ∧ 0 ≤ c ∧ c + n ≤ deckTop
def RepF (K : PySem.W.Frag) (W : Wl) : List (Str × V) → List (Str × Dt) → Prop
  | [], [] => True
  | (x, v) :: vs, (y, d) :: ds => x = y ∧ Rep K W v d ∧ RepF K W vs ds
  | _, _ => False
/-- the static surroundings of all defs -/
structure Sur where
  P : Program
  w : World
  K : PySem.W.Frag
  mg : Str → Option Value
  base : Heap
def dKV (kvs : List (Str × Str)) : List (Key × V) := kvs.map fun p => (.inr p.1, .str p.2)
def RsOk (G : Sur) (W : Wl) (a : Addr) : Rs → Prop
  | .deck n => DeckOk W.h a n
  | .obj c fs => ∃ C dx vs, G.mg c = some (.ref C) ∧ W.h a = some (.ins C dx vs) ∧ RepF G.K W vs fs
  | .dct kvs => W.h a = some (.dK (dKV kvs)) ∧ ∀ p ∈ kvs, p.1.length ≤ sizeLine ∧ p.2.length ≤ sizeLine
/-- the world is sound -/
structure Wd (G : Sur) (W : Wl) (S : Store) : Prop where
  sub : Same W.f W.h
  len : W.ad.length = S.length
  nd : W.ad.Nodup
  res : ∀ (k : Nat) (r : Rs), S[k]? = some r → ∃ a, W.ad[k]? = some a ∧ W.f a = none ∧ RsOk G W a r
/-- from one world to a later one -/
structure Ext (W W' : Wl) : Prop where
  ad : W.ad <+: W'.ad
  f : Same W.f W'.f
  h : ∀ a o, W.h a = some o → a ∉ W.ad → W'.h a = some o
  fr : ∀ a, a ∉ W.ad → W.f a = none → W.h a ≠ none → W'.f a = none
  nw : ∀ a, a ∈ W'.ad → a ∈ W.ad ∨ W.h a = none
  td : ∀ a, a ∈ W.ad → W'.h a ≠ none ∨ W.h a = none

theorem Ext.refl (W : Wl) : Ext W W := ⟨List.prefix_refl _, Same.refl _, fun _ _ e _ => e, fun _ _ e _ => e, fun _ h => .inl h, fun a _ => by
  cases e : W.h a with
  | none => exact .inr rfl
  | some o => exact .inl (fun z => nomatch z)⟩
theorem Ext.trans {A B C : Wl} (x : Ext A B) (y : Ext B C) : Ext A C := by
  have nad : ∀ a, a ∉ A.ad → A.h a ≠ none → a ∉ B.ad := fun a h1 h2 h3 => (x.nw a h3).elim h1 h2
  refine ⟨x.ad.trans y.ad, x.f.trans y.f, fun a o e n => y.h a o (x.h a o e n) (nad a n (by rw [e]; exact fun z => nomatch z)), fun a n e z => ?_, fun a h => ?_, fun a h => ?_⟩
  · cases q : A.h a with
    | none => exact absurd q z
    | some o => exact y.fr a (nad a n z) (x.fr a n e z) (by rw [x.h a o q n]; exact fun z => nomatch z)
  · rcases y.nw a h with h | h
    · exact x.nw a h
    · by_cases hA : a ∈ A.ad
      · exact .inl hA
      · refine .inr ?_
        cases q : A.h a with
        | none => rfl
        | some o => rw [x.h a o q hA] at h; cases h
  · have hB : a ∈ B.ad := x.ad.subset h
    rcases x.td a h with q | q
    · rcases y.td a hB with z | z
      · exact .inl z
      · exact absurd z q
    · exact .inr q

mutual
theorem Rep.grow {K : PySem.W.Frag} {W W' : Wl} (ha : W.ad <+: W'.ad) (hf : Same W.f W'.f) : ∀ {d : Dt} {v : V}, Rep K W v d → Rep K W' v d
  | _, _, .non => .non
  | _, _, .bl b => .bl b
  | _, _, .int i => .int i
  | _, _, .str x h => .str x h
  | _, _, .tup s r => .tup (s.same hf) (RepL.grow ha hf r)
  | _, _, .lst s r => .lst (hf.seq s) (RepL.grow ha hf r)
  | _, _, .hdl h => .hdl (by
      obtain ⟨t, ht⟩ := ha
      rw [← ht]
      exact (List.getElem?_append_left (by
        obtain ⟨h1, _⟩ := List.getElem?_eq_some_iff.mp h
        exact h1)).trans h)
theorem RepL.grow {K : PySem.W.Frag} {W W' : Wl} (ha : W.ad <+: W'.ad) (hf : Same W.f W'.f) : ∀ {ds : List Dt} {vs : List V}, RepL K W vs ds → RepL K W' vs ds
  | _, _, .nil => .nil
  | _, _, .cons a b => .cons (Rep.grow ha hf a) (RepL.grow ha hf b)
end
theorem RepF.grow {K : PySem.W.Frag} {W W' : Wl} (ha : W.ad <+: W'.ad) (hf : Same W.f W'.f) : ∀ {ds : List (Str × Dt)} {vs : List (Str × V)}, RepF K W vs ds → RepF K W' vs ds
  | [], [], h => h
  | (y, d) :: ds, (x, v) :: vs, h => ⟨h.1, h.2.1.grow ha hf, RepF.grow ha hf h.2.2⟩
  | [], _ :: _, h => h.elim
  | _ :: _, [], h => h.elim
theorem Rep.mono {K : PySem.W.Frag} {W W' : Wl} (e : Ext W W') {d : Dt} {v : V} (h : Rep K W v d) : Rep K W' v d := h.grow e.ad e.f
theorem RepL.mono {K : PySem.W.Frag} {W W' : Wl} (e : Ext W W') {ds : List Dt} {vs : List V} (h : RepL K W vs ds) : RepL K W' vs ds := h.grow e.ad e.f
theorem RepF.mono {K : PySem.W.Frag} {W W' : Wl} (e : Ext W W') {ds : List (Str × Dt)} {vs : List (Str × V)} (h : RepF K W vs ds) : RepF K W' vs ds := h.grow e.ad e.f
theorem RepL.length {K : PySem.W.Frag} {W : Wl} : ∀ {ds : List Dt} {vs : List V}, RepL K W vs ds → vs.length = ds.length
  | _, _, .nil => rfl
  | _, _, .cons _ b => by rw [List.length_cons, List.length_cons, RepL.length b]
theorem RepL.append {K : PySem.W.Frag} {W : Wl} : ∀ {ds es : List Dt} {vs us : List V}, RepL K W vs ds → RepL K W us es → RepL K W (vs ++ us) (ds ++ es)
  | _, _, _, _, .nil, s => s
  | _, _, _, _, .cons a b, s => .cons a (RepL.append b s)
theorem RepL.get {K : PySem.W.Frag} {W : Wl} : ∀ {ds : List Dt} {vs : List V} {i : Nat} {d : Dt}, RepL K W vs ds → ds[i]? = some d → ∃ v, vs[i]? = some v ∧ Rep K W v d
  | _, _, _, _, .nil, e => by simp at e
  | _, _, 0, _, .cons a _, e => by simp at e; subst e; exact ⟨_, rfl, a⟩
  | _, _, i + 1, _, .cons _ b, e => by
    obtain ⟨v, h1, h2⟩ := RepL.get (i := i) b (by simpa using e)
    exact ⟨v, by simpa using h1, h2⟩
theorem RepL.getV {K : PySem.W.Frag} {W : Wl} : ∀ {ds : List Dt} {vs : List V} {i : Nat} {v : V}, RepL K W vs ds → vs[i]? = some v → ∃ d, ds[i]? = some d ∧ Rep K W v d
  | _, _, _, _, .nil, e => by simp at e
  | _, _, 0, _, .cons a _, e => by simp at e; subst e; exact ⟨_, rfl, a⟩
  | _, _, i + 1, _, .cons _ b, e => by
    obtain ⟨v, h1, h2⟩ := RepL.getV (i := i) b (by simpa using e)
    exact ⟨v, by simpa using h1, h2⟩
theorem RepL.take {K : PySem.W.Frag} {W : Wl} : ∀ {ds : List Dt} {vs : List V} (n : Nat), RepL K W vs ds → RepL K W (vs.take n) (ds.take n)
  | _, _, 0, _ => .nil
  | _, _, _ + 1, .nil => .nil
  | _, _, n + 1, .cons a b => .cons a (RepL.take n b)
theorem RepL.drop {K : PySem.W.Frag} {W : Wl} : ∀ {ds : List Dt} {vs : List V} (n : Nat), RepL K W vs ds → RepL K W (vs.drop n) (ds.drop n)
  | _, _, 0, h => h
  | _, _, _ + 1, .nil => .nil
  | _, _, n + 1, .cons _ b => RepL.drop n b
theorem RepL.set {K : PySem.W.Frag} {W : Wl} {v : V} {d : Dt} (r : Rep K W v d) : ∀ {ds : List Dt} {vs : List V} (n : Nat), RepL K W vs ds → RepL K W (vs.set n v) (ds.set n d)
  | _, _, _, .nil => .nil
  | _, _, 0, .cons _ b => .cons r b
  | _, _, n + 1, .cons a b => .cons a (RepL.set r n b)
theorem RepL.two {K : PySem.W.Frag} {W : Wl} {vs : List V} {a b : Dt} (h : RepL K W vs [a, b]) : ∃ x y, vs = [x, y] ∧ Rep K W x a ∧ Rep K W y b := by
  cases h with
  | cons h1 h => cases h with
    | cons h2 h => cases h; exact ⟨_, _, rfl, h1, h2⟩
theorem RepL.one {K : PySem.W.Frag} {W : Wl} {vs : List V} {a : Dt} (h : RepL K W vs [a]) : ∃ x, vs = [x] ∧ Rep K W x a := by
  cases h with
  | cons h1 h => cases h; exact ⟨_, rfl, h1⟩

theorem Wd.ad_of {G : Sur} {W : Wl} {S : Store} (x : Wd G W S) {a : Addr} (h : a ∈ W.ad) : W.f a = none ∧ ∃ o, W.h a = some o := by
  obtain ⟨k, hk, e⟩ := List.mem_iff_getElem.mp h
  have hS : k < S.length := by rw [← x.len]; exact hk
  obtain ⟨b, e1, e2, e3⟩ := x.res k S[k] (List.getElem?_eq_getElem hS)
  have e4 : b = a := by
    rw [List.getElem?_eq_getElem hk] at e1
    rw [← Option.some.inj e1, e]
  subst e4
  refine ⟨e2, ?_⟩
  cases q : S[k] with
  | deck n =>
    rw [q] at e3
    obtain ⟨x, y, c, h, _⟩ := e3
    exact ⟨_, h⟩
  | obj c fs =>
    rw [q] at e3
    obtain ⟨C, dx, vs, _, h, _⟩ := e3
    exact ⟨_, h⟩
  | dct kvs =>
    rw [q] at e3
    exact ⟨_, e3.1⟩

/-- a new frozen object -/
abbrev Wl.put (W : Wl) (p : Addr) (o : HO) : Wl := ⟨W.ad, upd W.f p o, upd W.h p o⟩
/-- a new object of ours, not frozen -/
abbrev Wl.own (W : Wl) (p : Addr) (o : HO) : Wl := ⟨W.ad, W.f, upd W.h p o⟩
theorem same_upd {H : Hp} {p : Addr} {o : HO} (h : H p = none) : Same H (upd H p o) := fun b x e => by
  rw [upd_ne (ne_of_none e h)]
  exact e
theorem Wd.none_f {G : Sur} {W : Wl} {S : Store} (x : Wd G W S) {p : Addr} (h : W.h p = none) : W.f p = none := x.sub.free h
theorem Wd.not_ad {G : Sur} {W : Wl} {S : Store} (x : Wd G W S) {p : Addr} (h : W.h p = none) : p ∉ W.ad := fun q => by
  obtain ⟨_, o, e⟩ := x.ad_of q
  rw [h] at e
  cases e
theorem Wd.ext_put {G : Sur} {W : Wl} {S : Store} (x : Wd G W S) {p : Addr} {o : HO} (h : W.h p = none) : Ext W (W.put p o) :=
  ⟨List.prefix_refl _, same_upd (x.none_f h), fun a u e _ => same_upd h a u e, fun a _ e z => by
    show upd W.f p o a = none
    rw [upd_ne]
    · exact e
    · rintro rfl
      exact z h, fun a q => .inl q, fun a q => by
    obtain ⟨_, u, e⟩ := x.ad_of q
    exact .inl (by show upd W.h p o a ≠ none; rw [same_upd h a u e]; exact fun z => nomatch z)⟩
theorem Wd.ext_own {G : Sur} {W : Wl} {S : Store} (x : Wd G W S) {p : Addr} {o : HO} (h : W.h p = none) : Ext W (W.own p o) :=
  ⟨List.prefix_refl _, Same.refl _, fun a u e _ => same_upd h a u e, fun a _ e _ => e, fun a q => .inl q, fun a q => by
    obtain ⟨_, u, e⟩ := x.ad_of q
    exact .inl (by show upd W.h p o a ≠ none; rw [same_upd h a u e]; exact fun z => nomatch z)⟩
theorem RsOk.mono {G : Sur} {W W' : Wl} (e : Ext W W') (a : Addr) (h : ∀ o, W.h a = some o → W'.h a = some o) : ∀ {r : Rs}, RsOk G W a r → RsOk G W' a r
  | .deck n, ⟨x, y, c, q, r⟩ => ⟨x, y, c, h _ q, r⟩
  | .obj _ _, ⟨C, dx, vs, q1, q2, q3⟩ => ⟨C, dx, vs, q1, h _ q2, q3.mono e⟩
  | .dct _, ⟨q1, q2⟩ => ⟨h _ q1, q2⟩
theorem Wd.put {G : Sur} {W : Wl} {S : Store} (x : Wd G W S) {p : Addr} {o : HO} (h : W.h p = none) : Wd G (W.put p o) S :=
  ⟨fun a u e => by
    by_cases q : a = p
    · subst q
      have e1 : upd W.f a o a = some u := e
      rw [upd_same] at e1
      show upd W.h a o a = some u
      rw [upd_same, ← e1]
    · have e1 : upd W.f p o a = some u := e
      rw [upd_ne q] at e1
      show upd W.h p o a = some u
      rw [upd_ne q]
      exact x.sub a u e1, x.len, x.nd, fun k r e => by
    obtain ⟨a, h1, h2, h3⟩ := x.res k r e
    have ha : a ∈ W.ad := List.mem_of_getElem? h1
    obtain ⟨_, u, e2⟩ := x.ad_of ha
    refine ⟨a, h1, ?_, h3.mono (x.ext_put h) a fun v q => same_upd h a v q⟩
    show upd W.f p o a = none
    rw [upd_ne]
    · exact h2
    · rintro rfl
      rw [h] at e2
      cases e2⟩
theorem Wd.own {G : Sur} {W : Wl} {S : Store} (x : Wd G W S) {p : Addr} {o : HO} (h : W.h p = none) : Wd G (W.own p o) S :=
  ⟨x.sub.trans (same_upd h), x.len, x.nd, fun k r e => by
    obtain ⟨a, h1, h2, h3⟩ := x.res k r e
    exact ⟨a, h1, h2, h3.mono (x.ext_own h) a fun v q => same_upd h a v q⟩⟩
/-- our object becomes frozen -/
abbrev Wl.frz (W : Wl) (p : Addr) (o : HO) : Wl := ⟨W.ad, upd W.f p o, W.h⟩
theorem upd_id {H : Hp} {p : Addr} {o : HO} (h : H p = some o) : upd H p o = H := by
  funext b
  by_cases q : b = p
  · subst q; rw [upd_same, h]
  · rw [upd_ne q]
theorem Wl.own_frz (W : Wl) (p : Addr) (o : HO) : (W.own p o).frz p o = W.put p o := rfl
theorem Wd.frz {G : Sur} {W : Wl} {S : Store} (x : Wd G W S) {p : Addr} {o : HO} (h : W.h p = some o) (n : p ∉ W.ad) (hf : W.f p = none) : Wd G (W.frz p o) S := by
  refine ⟨fun a u e => ?_, x.len, x.nd, fun k r e => ?_⟩
  · by_cases q : a = p
    · subst q
      have e1 : upd W.f a o a = some u := e
      rw [upd_same] at e1
      rw [← e1]; exact h
    · have e1 : upd W.f p o a = some u := e
      rw [upd_ne q] at e1
      exact x.sub a u e1
  · obtain ⟨a, h1, h2, h3⟩ := x.res k r e
    have ne : a ≠ p := fun z => n (z ▸ List.mem_of_getElem? h1)
    refine ⟨a, h1, ?_, ?_⟩
    · show upd W.f p o a = none
      rw [upd_ne ne]; exact h2
    · cases r with
      | deck m => exact h3
      | obj c fs =>
        obtain ⟨C, dx, vs, q1, q2, q3⟩ := h3
        exact ⟨C, dx, vs, q1, q2, RepF.grow (W := W) (W' := W.frz p o) (List.prefix_refl _) (same_upd hf) q3⟩
      | dct kvs => exact h3
theorem Rep.frz {K : PySem.W.Frag} {W : Wl} {p : Addr} {o : HO} (hf : W.f p = none) {v : V} {d : Dt} (r : Rep K W v d) : Rep K (W.frz p o) v d := Rep.grow (W := W) (W' := W.frz p o) (List.prefix_refl _) (same_upd hf) r
theorem RepL.frz {K : PySem.W.Frag} {W : Wl} {p : Addr} {o : HO} (hf : W.f p = none) {v : List V} {d : List Dt} (r : RepL K W v d) : RepL K (W.frz p o) v d := RepL.grow (W := W) (W' := W.frz p o) (List.prefix_refl _) (same_upd hf) r
/-- from a world to one in which an object of ours, made since, is frozen -/
theorem Ext.frz {W W' : Wl} {p : Addr} {o : HO} (e : Ext W W') (n : W.h p = none) (hf : W'.f p = none) : Ext W (W'.frz p o) :=
  ⟨e.ad, e.f.trans (same_upd hf), e.h, fun a h1 h2 h3 => by
    show upd W'.f p o a = none
    rw [upd_ne]
    · exact e.fr a h1 h2 h3
    · rintro rfl
      exact h3 n, e.nw, e.td⟩

/-! ### slots -/
/-- what a def's name holds: nothing that is known, a datum, a list of its own -/
inductive Sl where
  | no | sh (d : Dt) | ow (ds : List Dt)
abbrev Ev := List Sl
/-- a list of our own at l, made since H0 -/
structure Own (K : PySem.W.Frag) (H0 : Hp) (W : Wl) (l : Addr) (ds : List Dt) : Prop where
  at_ : ∃ vs, W.h l = some (.lst vs) ∧ RepL K W vs ds
  f : W.f l = none
  ad : l ∉ W.ad
  new : H0 l = none
def SlOk (K : PySem.W.Frag) (H0 : Hp) (W : Wl) (x : Option V) : Sl → Prop
  | .no => True
  | .sh d => ∃ v, x = some v ∧ Rep K W v d
  | .ow ds => ∃ l, x = some (.ref l) ∧ Own K H0 W l ds
structure EvOk (K : PySem.W.Frag) (H0 : Hp) (W : Wl) (σ : L2.St) (ρ : Ev) : Prop where
  len : σ.length = ρ.length
  at_ : ∀ (i : Nat) (s : Sl), ρ[i]? = some s → ∃ x, σ[i]? = some x ∧ SlOk K H0 W x s
  ne : ∀ (i j : Nat) (ds es : List Dt) (l : Addr), ρ[i]? = some (.ow ds) → ρ[j]? = some (.ow es) → σ[i]? = some (some (.ref l)) → σ[j]? = some (some (.ref l)) → i = j
theorem Own.mono {K : PySem.W.Frag} {H0 : Hp} {W W' : Wl} (e : Ext W W') {l : Addr} {ds : List Dt} (h : Own K H0 W l ds) : Own K H0 W' l ds := by
  obtain ⟨⟨vs, h1, h2⟩, h3, h4, h5⟩ := h
  have n : W.h l ≠ none := by rw [h1]; exact fun z => nomatch z
  exact ⟨⟨vs, e.h l _ h1 h4, h2.mono e⟩, e.fr l h4 h3 n, fun q => (e.nw l q).elim h4 n, h5⟩
theorem SlOk.mono {K : PySem.W.Frag} {H0 : Hp} {W W' : Wl} (e : Ext W W') {x : Option V} : ∀ {s : Sl}, SlOk K H0 W x s → SlOk K H0 W' x s
  | .no, _ => trivial
  | .sh _, ⟨v, h1, h2⟩ => ⟨v, h1, h2.mono e⟩
  | .ow _, ⟨l, h1, h2⟩ => ⟨l, h1, h2.mono e⟩
theorem EvOk.mono {K : PySem.W.Frag} {H0 : Hp} {W W' : Wl} (e : Ext W W') {σ : L2.St} {ρ : Ev} (h : EvOk K H0 W σ ρ) : EvOk K H0 W' σ ρ :=
  ⟨h.len, fun i s q => let ⟨x, h1, h2⟩ := h.at_ i s q; ⟨x, h1, h2.mono e⟩, h.ne⟩
/-- a datum is stored -/
theorem EvOk.setSh {K : PySem.W.Frag} {H0 : Hp} {W : Wl} {σ : L2.St} {ρ : Ev} (h : EvOk K H0 W σ ρ) (i : Nat) {v : V} {d : Dt} (r : Rep K W v d) : EvOk K H0 W (σ.set i (some v)) (ρ.set i (.sh d)) := by
  refine ⟨by rw [List.length_set, List.length_set]; exact h.len, fun j s q => ?_, fun j k ds es l q1 q2 q3 q4 => ?_⟩
  · by_cases e : i = j
    · subst e
      have hi : i < ρ.length := by
        have := (List.getElem?_eq_some_iff.mp q).1
        rwa [List.length_set] at this
      rw [List.getElem?_set_self hi] at q
      cases q
      exact ⟨some v, List.getElem?_set_self (by rw [h.len]; exact hi), v, rfl, r⟩
    · rw [List.getElem?_set_ne e] at q ⊢
      exact h.at_ j s q
  · have n1 : i ≠ j := by
      rintro rfl
      have hi : i < ρ.length := by
        have := (List.getElem?_eq_some_iff.mp q1).1
        rwa [List.length_set] at this
      rw [List.getElem?_set_self hi] at q1
      cases q1
    have n2 : i ≠ k := by
      rintro rfl
      have hi : i < ρ.length := by
        have := (List.getElem?_eq_some_iff.mp q2).1
        rwa [List.length_set] at this
      rw [List.getElem?_set_self hi] at q2
      cases q2
    rw [List.getElem?_set_ne n1] at q1 q3
    rw [List.getElem?_set_ne n2] at q2 q4
    exact h.ne j k ds es l q1 q2 q3 q4
/-- a new list of our own is stored -/
theorem EvOk.setOw {K : PySem.W.Frag} {H0 : Hp} {W : Wl} {σ : L2.St} {ρ : Ev} (h : EvOk K H0 W σ ρ) (i : Nat) {l : Addr} {ds : List Dt} (o : Own K H0 W l ds) (fresh : ∀ (j : Nat) (es : List Dt), j ≠ i → ρ[j]? = some (.ow es) → σ[j]? ≠ some (some (.ref l))) :
    EvOk K H0 W (σ.set i (some (.ref l))) (ρ.set i (.ow ds)) := by
  refine ⟨by rw [List.length_set, List.length_set]; exact h.len, fun j s q => ?_, fun j k ds es l' q1 q2 q3 q4 => ?_⟩
  · by_cases e : i = j
    · subst e
      have hi : i < ρ.length := by
        have := (List.getElem?_eq_some_iff.mp q).1
        rwa [List.length_set] at this
      rw [List.getElem?_set_self hi] at q
      cases q
      exact ⟨_, List.getElem?_set_self (by rw [h.len]; exact hi), l, rfl, o⟩
    · rw [List.getElem?_set_ne e] at q ⊢
      exact h.at_ j s q
  · have hj : j < ρ.length := by
      have := (List.getElem?_eq_some_iff.mp q1).1
      rwa [List.length_set] at this
    have hk : k < ρ.length := by
      have := (List.getElem?_eq_some_iff.mp q2).1
      rwa [List.length_set] at this
    by_cases e1 : i = j
    · by_cases e2 : i = k
      · rw [← e1, ← e2]
      · subst e1
        rw [List.getElem?_set_self (by rw [h.len]; exact hj)] at q3
        rw [List.getElem?_set_ne e2] at q2 q4
        cases q3
        exact absurd q4 (fresh k es (Ne.symm e2) q2)
    · by_cases e2 : i = k
      · subst e2
        rw [List.getElem?_set_self (by rw [h.len]; exact hk)] at q4
        rw [List.getElem?_set_ne e1] at q1 q3
        cases q4
        exact absurd q3 (fresh j _ (Ne.symm e1) q1)
      · rw [List.getElem?_set_ne e1] at q1 q3
        rw [List.getElem?_set_ne e2] at q2 q4
        exact h.ne j k _ es l' q1 q2 q3 q4
/-- a slot is forgotten -/
theorem EvOk.setNo {K : PySem.W.Frag} {H0 : Hp} {W : Wl} {σ : L2.St} {ρ : Ev} (h : EvOk K H0 W σ ρ) (i : Nat) (x : Option V) : EvOk K H0 W (σ.set i x) (ρ.set i .no) := by
  refine ⟨by rw [List.length_set, List.length_set]; exact h.len, fun j s q => ?_, fun j k ds es l q1 q2 q3 q4 => ?_⟩
  · by_cases e : i = j
    · subst e
      have hi : i < ρ.length := by
        have := (List.getElem?_eq_some_iff.mp q).1
        rwa [List.length_set] at this
      rw [List.getElem?_set_self hi] at q
      cases q
      exact ⟨x, List.getElem?_set_self (by rw [h.len]; exact hi), trivial⟩
    · rw [List.getElem?_set_ne e] at q ⊢
      exact h.at_ j s q
  · have n1 : i ≠ j := by
      rintro rfl
      have hi : i < ρ.length := by
        have := (List.getElem?_eq_some_iff.mp q1).1
        rwa [List.length_set] at this
      rw [List.getElem?_set_self hi] at q1
      cases q1
    have n2 : i ≠ k := by
      rintro rfl
      have hi : i < ρ.length := by
        have := (List.getElem?_eq_some_iff.mp q2).1
        rwa [List.length_set] at this
      rw [List.getElem?_set_self hi] at q2
      cases q2
    rw [List.getElem?_set_ne n1] at q1 q3
    rw [List.getElem?_set_ne n2] at q2 q4
    exact h.ne j k ds es l q1 q2 q3 q4
end Vr

/-! Sets of texts: made of a list, walked, sorted. -/
namespace Vr
open PySem PySem.Spec PyProof.Rows L2

def keyS (e : Int × Value) : Str := match e.2 with
  | .str k _ => k
  | _ => Str.empty
def GoodS (P : Program) (w : World) (e : Int × Value) : Prop := ∃ k tk, e.2 = Value.str k tk ∧ e.1 = (PySem.strKind P w).hash k
/-- the set of texts at a: S its members, n their number -/
def SetS (P : Program) (w : World) (h : Heap) (a : Addr) (S : Str → Bool) (n : Nat) : Prop :=
  ∃ o es ep t, h.get? a = some o ∧ o.ExactSet ∧ o.data = .set es ep t ∧ (∀ e ∈ es.toList, GoodS P w e) ∧ (es.toList.map keyS).Nodup ∧ (∀ k, S k = true ↔ k ∈ es.toList.map keyS) ∧
    es.size < scanBound ∧ t.fits es.size = true ∧ es.size = n ∧ Ris t.place.toList ∧ (w.params.followText "set-order" = true ∨ t.led = true)
section
variable {P : Program} {w : World} {h h' : Heap} {a : Addr} {S : Str → Bool} {n : Nat}
theorem SetS.at (R : SetS P w h a S n) (k : ∀ o, h.get? a = some o → h'.get? a = some o) : SetS P w h' a S n := by
  obtain ⟨o, es, ep, t, ho, r⟩ := R
  exact ⟨o, es, ep, t, k o ho, r⟩
theorem SetS.congr {S' : Str → Bool} {n' : Nat} (R : SetS P w h a S n) (e : ∀ k, S' k = S k) (en : n' = n) : SetS P w h a S' n' := by
  have q : S' = S := funext e
  rw [q, en]; exact R
theorem elemsS {l : List (Int × Value)} (g : ∀ e ∈ l, GoodS P w e) : ElemsOf (PySem.strKind P w) l := fun e he => by
  obtain ⟨k, tk, h1, h2⟩ := g e he
  exact ⟨⟨k, by rw [h1]; exact strKind_is P w k tk, h2⟩, by rw [h1] <;> rfl⟩
theorem isS {e : Int × Value} (g : GoodS P w e) (k : Str) : (PySem.strKind P w).is k e.2 = true ↔ keyS e = k := by
  obtain ⟨k0, tk, h1, _⟩ := g
  unfold keyS
  rw [h1]
  show ((k0 == k) = true) ↔ k0 = k
  exact beq_iff_eq
theorem memS {l : List (Int × Value)} (g : ∀ e ∈ l, GoodS P w e) (k : Str) : k ∈ l.map keyS ↔ ∃ e ∈ l, (PySem.strKind P w).is k e.2 = true := by
  rw [List.mem_map]
  constructor
  · rintro ⟨e, he, q⟩
    exact ⟨e, he, (isS (g e he) k).2 q⟩
  · rintro ⟨e, he, q⟩
    exact ⟨e, he, (isS (g e he) k).1 q⟩
end
section
variable {P : Program} {w : World} {A : Around} {E : Value → Shared → Prop} {s : Shared} {a : Addr} {S : Str → Bool} {n : Nat}
/-! ### a text is put in (as HandS.Set does it with a whole number) -/
theorem setS_add_tail {g : Bool → Sem Unit} (hg : ∀ (b : Bool) (s₁ : Shared) (Q' : Unit → Shared → Prop), Q' () s₁ → wpAny (model P w) A (g b) Q' E s₁)
    {o : Obj} {es : Array (Int × Value)} {ep : Nat} {t : SetTable} (ho : s.heap.get? a = some o) (hex : o.ExactSet) (hd : o.data = .set es ep t)
    {es1 : Array (Int × Value)} {t2 : SetTable} {S' : Str → Bool} (g1 : ∀ e ∈ es1.toList, GoodS P w e) (nd1 : (es1.toList.map keyS).Nodup) (m1 : ∀ k, S' k = true ↔ k ∈ es1.toList.map keyS)
    (hb1 : es1.size < scanBound) (hf2 : t2.fits es1.size = true) (hr : Ris t2.place.toList) (hl : w.params.followText "set-order" = true ∨ t2.led = true) {wasDummy : Bool} {R : Option Bool → Shared → Prop}
    (hR : ∀ h', Heap.SameBut a s.heap h' → SetS P w h' a S' es1.size → R (some true) { s with heap := h' }) :
    wpAny (model P w) A (do
        storeSet a es1 t2
        if (!wasDummy && t2.tooFull) = true then do
            g (relayAll t2 es1 (SetTable.grown es1.size)).2.2
            storeSet a (relayAll t2 es1 (SetTable.grown es1.size)).1 (relayAll t2 es1 (SetTable.grown es1.size)).2.1
            pure (some true)
          else pure (some true)) R E s := by
  refine wpAny_bind (wpAny_storeSet_of ho hd ?_ (fits_of_scanBound hb1))
  have ho1 := store_at (es' := es1) (t' := t2) ho hd
  have sb1 := Heap.SameBut.update s.heap a (Obj.putSet es1 t2)
  split
  · have pm := relayAll_perm t2 es1 (SetTable.grown es1.size)
    have hf3 := relayAll_fits t2 es1 (SetTable.grown es1.size)
    have hr3 := relayAll_ris t2 es1 (SetTable.grown es1.size)
    have hl3 := relayAll_led t2 es1 (SetTable.grown es1.size)
    generalize relayAll t2 es1 (SetTable.grown es1.size) = Z at pm hf3 hr3 hl3 ⊢
    obtain ⟨es2, t3, gave⟩ := Z
    dsimp only at pm hf3 hr3 hl3 ⊢
    have hsz : es2.size = es1.size := by rw [← Array.length_toList, pm.length_eq, Array.length_toList]
    have hb2 : es2.size < scanBound := by rw [hsz]; exact hb1
    refine wpAny_bind (hg _ _ _ ?_)
    refine wpAny_bind (wpAny_storeSet_of ho1 rfl ?_ (fits_of_scanBound hb2))
    have ho2 := store_at (es' := es2) (t' := t3) ho1 rfl
    refine wpAny_pure (hR _ (sb1.trans (Heap.SameBut.update _ a _)) ?_)
    exact ⟨_, es2, _, t3, ho2, hex, rfl, fun e he => g1 e (pm.mem_iff.mp he), (pm.map keyS).nodup_iff.mpr nd1, fun k => (m1 k).trans (pm.map keyS).mem_iff.symm, hb2, hf3, hsz, hr3,
      hl.imp id fun z => by rw [hl3]; exact z⟩
  · exact wpAny_pure (hR _ sb1 ⟨_, es1, _, t2, ho1, hex, rfl, g1, nd1, m1, hb1, hf2, rfl, hr, hl⟩)

theorem setS_add_hashed {k : Str} {tk : Tok} {Q : Bool → Shared → Prop} (R : SetS P w s.heap a S n) (room : n + 1 < scanBound)
    (hQ : ∀ h', Heap.SameBut a s.heap h' → SetS P w h' a (fun j => S j || decide (j = k)) (if S k = true then n else n + 1) → Q (!S k) { s with heap := h' }) :
    wpAny (model P w) A (setAddHashed a (.str k tk) ((PySem.strKind P w).hash k)) Q E s := by
  obtain ⟨o, es, ep, t, ho, hex, hd, g, nd, hm, hb, hf, hn, hr, hl⟩ := R
  have hkey : (PySem.strKind P w).is k (.str k tk) = true := strKind_is P w k tk
  have hsc : (Value.str k tk).scannable = true := rfl
  have hel : ElemsOf (PySem.strKind P w) es.toList := elemsS g
  unfold setAddHashed setAddHashedIn
  refine wpAny_holding (wpAny_bind (wpAny_setState_of ho hd hf ?_))
  dsimp only
  rw [byScan_of hsc hb hel]
  simp only [↓reduceIte]
  unfold setAddByScan
  refine wpAny_bind ?_
  refine wpAny_bind (wpAny_rule ?_)
  refine wpAny_bind (wpAny_setScan_of hkey ho hd hf hel ?_)
  cases hfi : List.findIdx? (fun e => (PySem.strKind P w).is k e.2) es.toList with
  | some j =>
    dsimp only
    obtain ⟨hj, pj, _⟩ := List.findIdx?_eq_some_iff_getElem.mp hfi
    have hSk : S k = true := (hm k).2 ((memS (P := P) (w := w) g k).2 ⟨es.toList[j], List.getElem_mem hj, pj⟩)
    refine wpAny_pure (wpAny_pure ?_)
    have q := hQ s.heap (Heap.SameBut.refl a s.heap) ⟨o, es, ep, t, ho, hex, hd, g, nd, fun i => by
      rw [Bool.or_eq_true, decide_eq_true_eq, ← hm i]
      exact ⟨fun z => z.elim id (fun e => e ▸ hSk), .inl⟩, hb, hf, by rw [if_pos hSk]; exact hn, hr, hl⟩
    rw [hSk] at q
    exact q
  | none =>
    dsimp only
    have hnk : k ∉ es.toList.map keyS := fun z => by
      obtain ⟨e, he, q⟩ := (memS (P := P) (w := w) g k).1 z
      have c := List.findIdx?_eq_none_iff.mp hfi e he
      rw [q] at c
      cases c
    have hSk : S k = false := by
      cases q : S k with
      | false => rfl
      | true => exact absurd ((hm k).1 q) hnk
    have hgw : ∀ (b : Bool) {s₁ : Shared} {Q' : Unit → Shared → Prop}, Q' () s₁ → wpAny (model P w) A (match b with | true => rule "set.scan.the-table-gave-way" | false => pure ()) Q' E s₁ :=
      fun b s₁ Q' q => by cases b <;> first | exact wpAny_pure q | exact wpAny_rule q
    have pm := layNew_perm t es ((PySem.strKind P w).hash k) (.str k tk)
    have hf1 := layNew_fits t es ((PySem.strKind P w).hash k) (.str k tk)
    have hr1 := layNew_ris t es ((PySem.strKind P w).hash k) (.str k tk) hr
    have hl1 := layNew_led t es ((PySem.strKind P w).hash k) (.str k tk)
    generalize layNew t es ((PySem.strKind P w).hash k) (.str k tk) = Z at pm hf1 hr1 hl1 ⊢
    obtain ⟨es1, t1, wasDummy, gave⟩ := Z
    dsimp only at pm hf1 hr1 hl1 ⊢
    rw [Array.toList_push] at pm
    have pc : es1.toList.Perm (((PySem.strKind P w).hash k, Value.str k tk) :: es.toList) := pm.trans (List.perm_append_singleton _ _)
    have pk : (es1.toList.map keyS).Perm (k :: es.toList.map keyS) := pc.map keyS
    have g1 : ∀ e ∈ es1.toList, GoodS P w e := fun e he => by
      rcases List.mem_cons.mp (pc.mem_iff.mp he) with z | z
      · rw [z]; exact ⟨k, tk, rfl, rfl⟩
      · exact g e z
    have nd1 : (es1.toList.map keyS).Nodup := pk.nodup_iff.mpr (List.nodup_cons.mpr ⟨hnk, nd⟩)
    have m1 : ∀ i, (S i || decide (i = k)) = true ↔ i ∈ es1.toList.map keyS := fun i => by
      rw [Bool.or_eq_true, decide_eq_true_eq, hm i, pk.mem_iff, List.mem_cons]
      exact Or.comm
    have hsz : es1.size = n + 1 := by rw [← Array.length_toList, pc.length_eq, List.length_cons, Array.length_toList, hn]
    have hb1 : es1.size < scanBound := by rw [hsz]; exact room
    have hled : w.params.followText "set-order" = true ∨ t1.led = true := hl.imp id fun z => by rw [hl1]; exact z
    have fin : ∀ h', Heap.SameBut a s.heap h' → SetS P w h' a (fun j => S j || decide (j = k)) es1.size → Q true { s with heap := h' } := fun h' sb r => by
      have q := hQ h' sb
      rw [hSk] at q
      rw [hsz] at r
      exact q r
    refine wpAny_bind (hgw _ ?_)
    split
    · refine wpAny_bind ?_
      rw [hashByValue_scannable 8 hsc]
      refine wpAny_pure ?_
      refine setS_add_tail ?_ ho hex hd g1 nd1 m1 hb1 ?_ ?_ ?_ ?_
      · intro b s₁ Q' q; cases b <;> first | exact wpAny_pure q | exact wpAny_rule q
      · first | (split <;> first | exact hf1 | exact SetTable.fits_plain_off hf1) | exact hf1
      · first | (split <;> exact hr1) | exact hr1
      · first | (split <;> exact hled) | exact hled
      · intro h' sb r; dsimp only; exact wpAny_pure (fin h' sb r)
    · refine wpAny_bind (wpAny_pure ?_)
      simp only [↓reduceIte]
      refine setS_add_tail ?_ ho hex hd g1 nd1 m1 hb1 hf1 hr1 hled ?_
      · intro b s₁ Q' q; cases b <;> first | exact wpAny_pure q | exact wpAny_rule q
      · intro h' sb r; dsimp only; exact wpAny_pure (fin h' sb r)

end
section
variable {prog : Program} {w : World} {A : Around} {R : Result → Shared → Prop} {I : Addr} {fp wr : List Addr} {G : Array GenState → Array GenState → Prop} {n : Nat} {P : Nat → Value → Prop} {St : Nat → Shared → Prop}
theorem take_any (xs : List Str) (i : Nat) (hi : i < xs.length) (k' : Str) : ((xs.take i).any (· == k') || decide (k' = xs.getD i Str.empty)) = (xs.take (i + 1)).any (· == k') := by
  rw [List.take_succ_eq_append_getElem hi, List.any_append]
  congr 1
  have e : xs.getD i Str.empty = xs[i] := by rw [List.getD_eq_getElem?_getD, List.getElem?_eq_getElem hi]; rfl
  rw [e]
  simp only [List.any_cons, List.any_nil, Bool.or_false]
  exact Bool.eq_iff_iff.mpr ⟨fun z => by rw [beq_iff_eq]; exact (of_decide_eq_true z).symm, fun z => decide_eq_true (beq_iff_eq.mp z).symm⟩
/-- a walk's texts, put into a set -/
theorem loopS (W : WalksS prog w A.in1 I fp wr G n P St) (S : Addr) (hSf : S ∉ fp) (xs : List Str) (hsz : xs.length = n) (hn1 : n + 1 < scanBound)
    (hval : ∀ i v, P i v → ∃ t, v = .str (xs.getD i Str.empty) t) :
    ∀ (k i m : Nat) (s : Shared), n - i = k → i ≤ n → m ≤ i → St i s → SetS prog w s.heap S (fun k' => (xs.take i).any (· == k')) m →
      (∀ s' m, Moved (S :: wr) G s s' → m ≤ n → SetS prog w s'.heap S (fun k' => (xs.take n).any (· == k')) m → R (.ok (.ret .none)) s') →
      codeAny (model prog w) A (.builtin "set.update.loop" ⟨[.ref S, .ref I], []⟩) R s := by
  have hSw : S ∉ wr := fun h => hSf (W.sub _ h)
  have hsub : ∀ b ∈ wr, b ∈ S :: wr := fun b hb => List.mem_cons_of_mem _ hb
  intro k
  induction k with
  | zero =>
    intro i m s hk hi hm hst hS hR
    have hin : i = n := by omega
    subst hin
    refine codeAny_builtin PyProof.Rows.F.entry_set_update_loop ?_
    rw [Around.under_plainId PyProof.Rows.F.plain_set_update_loop _]
    show wpAny _ A.in1 (pyNext (.ref I) >>= _) _ _ s
    refine wpAny_bind (W.done s _ _ hst fun s' hmv => ?_)
    show wpAny _ A.in1 (ret Value.none) _ _ s'
    exact wpAny_pure (hR s' m (hmv.mono hsub) hm (hS.at fun o e => hmv.heap S _ hSw e))
  | succ k ih =>
    intro i m s hk hi hm hst hS hR
    have hlt : i < n := by omega
    refine codeAny_builtin PyProof.Rows.F.entry_set_update_loop ?_
    rw [Around.under_plainId PyProof.Rows.F.plain_set_update_loop _]
    show wpAny _ A.in1 (pyNext (.ref I) >>= _) _ _ s
    refine wpAny_bind (W.item i s _ _ hlt hst fun v s' hP hst' hmv => ?_)
    obtain ⟨t, rfl⟩ := hval i v hP
    have hS' : SetS prog w s'.heap S (fun k' => (xs.take i).any (· == k')) m := hS.at fun o e => hmv.heap S _ hSw e
    show wpAny _ A.in1 (holding [Value.str (xs.getD i Str.empty) t] (setAdd S (.str (xs.getD i Str.empty) t)) >>= _) _ _ s'
    refine wpAny_bind (wpAny_holding ?_)
    unfold setAdd
    refine wpAny_holding ?_
    refine wpAny_bind ((PySem.strKind prog w).pyHash (k := xs.getD i Str.empty) (strKind_is _ _ _ _) ?_)
    refine setS_add_hashed (s := { s' with toks := s'.toks + 1 }) hS' (by omega) fun h' hsb hS2 => ?_
    have hSi : SetS prog w h' S (fun k' => (xs.take (i + 1)).any (· == k')) _ := hS2.congr (fun k' => (take_any xs i (by omega) k').symm) rfl
    refine wpAny_pure ⟨plainId_quiet PyProof.Rows.F.plain_set_update_loop _, ih (i + 1) _ _ (by omega) hlt (by split <;> omega) (W.frame _ s' _ _ hst' (Nat.le_succ _) fun b hb o e => ?_) hSi fun s'' m'' hm'' hl'' hS'' => ?_⟩
    · rw [hsb.2 b (fun h : b = S => hSf (by rw [← h]; exact hb))]; exact e
    · refine hR s'' m'' (Moved.trans W.gtrans ((hmv.mono hsub).then_heap (Nat.le_succ _) fun b o hb e => ?_) hm'') hl'' hS''
      rw [hsb.2 b (fun h : b = S => hb (by rw [h]; exact List.mem_cons_self))]; exact e
end
theorem setS_fresh {P : Program} {h : Heap} (w : World) : SetS P w (h.push { cls := .type "set", dict := none, data := .set #[] 0 (.fresh 0 0 (!w.params.followText "set-order")) }) h.objs.size (fun _ => false) 0 :=
  ⟨_, #[], 0, _, Heap.get?_push_size _ rfl, ⟨rfl, rfl, rfl⟩, rfl, (fun e he => by simp at he), (by simp), (fun k => by simp), (by decide), (by rfl), rfl, List.Pairwise.nil, by
    show _ ∨ (!w.params.followText "set-order") = true
    cases w.params.followText "set-order"
    · exact .inr rfl
    · exact .inl rfl⟩
section
variable {P : Program} {w : World} {A : Around} {E : Value → Shared → Prop} {s : Shared}
/-- set(a list of texts), the way HandS.TupSets goes with tuples -/
theorem call_set_strs {l : Addr} {items : Array Value} {xs : List Str} {Q : Value → Shared → Prop} (hh : A.handled = none) (hl : s.heap.IsList l items) (hi : StrsAre items.toList xs) (hfew : xs.length + 1 < scanBound)
    (h : ∀ (h' : Heap) (tk m : Nat), m ≤ xs.length → SetS P w h' s.heap.objs.size (fun k' => xs.any (· == k')) m → (∀ b o, s.heap.get? b = some o → h'.get? b = some o) → Q (.ref s.heap.objs.size) { s with heap := h', toks := tk }) :
    wpAny (model P w) A (call (.type "set") [.ref l]) Q E s := by
  obtain ⟨c, tl, hmro⟩ := F.called_set.mro
  have hmade := F.called_set.made
  have hsub := F.called_set.sub
  refine wpAny_call (codeAny_of_tree ?_)
  show wpAny _ _ (callAny (.type "set") _) _ _ _
  refine wpAny_pure ⟨Code.quiet_builtin _ (by decide +kernel), codeAny_builtin F.entry_type_call ?_⟩
  rw [Around.under_plain (weight_type_call_type "set" [.ref l] []) rfl]
  have h1 := F.called_set.notType
  have h2 := F.called_set.canCreate
  have hct := F.typeCall_set_1 (.ref l)
  repeat (any_goals (first | assumption | wp_step))
  refine codeAny_mono (code_set_led1 (.ref l) (E := E) (Q₁ := fun obj s₁ => obj = .ref s.heap.objs.size ∧ s₁ = { s with heap := (s.heap.push { cls := .type "set", dict := none, data := .set #[] 0 (.fresh 0 0 (!w.params.followText "set-order")) }) }) ⟨rfl, rfl⟩) fun r s₁ hr => ?_
  cases r with
  | error e => exact hr
  | ok fl =>
    cases fl with
    | ret obj =>
      obtain ⟨rfl, rfl⟩ := hr
      have hS : (s.heap.push { cls := .type "set", dict := none, data := .set #[] 0 (.fresh 0 0 (!w.params.followText "set-order")) }).get? s.heap.objs.size = some { cls := .type "set", dict := none, data := .set #[] 0 (.fresh 0 0 (!w.params.followText "set-order")) } := Heap.get?_push_size _ rfl
      have hT : Shared.TypeIs { s with heap := (s.heap.push { cls := .type "set", dict := none, data := .set #[] 0 (.fresh 0 0 (!w.params.followText "set-order")) }) } (.ref s.heap.objs.size) "set" := ⟨_, hS, rfl⟩
      have hli := F.called_set.init.lookup
      have hbi := F.called_set.init.bind (.ref s.heap.objs.size)
      repeat (any_goals (first | assumption | wp_step))
      refine codeAny_mono (codeAny_call_builtin (R := wants (fun r s₂ => r = .none ∧ ∃ h' tk m, s₂ = { s with heap := h', toks := tk } ∧ m ≤ xs.length ∧ SetS P w h' s.heap.objs.size (fun k' => xs.any (· == k')) m ∧
          (∀ b o, s.heap.get? b = some o → h'.get? b = some o)) E) F.called_set.init.plain F.entry_set_init (check_set_init_1 hT ?_)) fun r₂ s₂ hr₂ => ?_
      · obtain ⟨ol, hol, hcl, nl, hdl⟩ := hl
        obtain ⟨ocls, odict, odata, oslots⟩ := ol
        simp only at hcl hdl
        subst hcl; subst hdl
        have hol' : (s.heap.push { cls := .type "set", dict := none, data := .set #[] 0 (.fresh 0 0 (!w.params.followText "set-order")) }).get? l = some { cls := .type "list", dict := odict, data := .seq items nl, slots := oslots } := Heap.get?_push_of_some _ hol
        have hsls := F.sub_list_set
        have hslf := F.sub_list_frozenset
        have hne : (Value.type "list" == Value.type "dict") = false := by decide
        have hl1 : (s.heap.push { cls := .type "set", dict := none, data := .set #[] 0 (.fresh 0 0 (!w.params.followText "set-order")) }).IsList l items := ⟨_, hol', rfl, nl, rfl⟩
        unfold Builtin.«set.__init__» noKeywords Builtin.Frozenset.updateFrom
        generalize hPI : pyIter = PI
        wp_walk
        subst hPI
        refine wpAny_pyIter_list hl1 ?_
        refine wpAny_bind (wpAny_runValue ?_)
        have hlS : l < s.heap.objs.size := Heap.lt_size hol
        have hh3 : A.in1.in1.in1.handled = none := by simp [hh]
        have hneI : l ≠ (s.heap.push { cls := .type "set", dict := none, data := .set #[] 0 (.fresh 0 0 (!w.params.followText "set-order")) }).objs.size := by
          rw [Heap.size_push]; exact Nat.ne_of_lt (Nat.lt_succ_of_lt hlS)
        have hSf : s.heap.objs.size ∉ [(s.heap.push { cls := .type "set", dict := none, data := .set #[] 0 (.fresh 0 0 (!w.params.followText "set-order")) }).objs.size, l] := by
          rw [Heap.size_push]; simp only [List.mem_cons, List.mem_singleton, List.not_mem_nil, or_false, not_or]
          exact ⟨Nat.ne_of_lt (Nat.lt_succ_self _), Nat.ne_of_gt hlS⟩
        have hsz : xs.length = items.size := by rw [← StrsAre.len_eq hi, Array.length_toList]
        have hval : ∀ (i : Nat) (v : Value), items[i]? = some v → ∃ t, v = .str (xs.getD i Str.empty) t := fun i v hv => SS.strs_at hi i v (by rw [Array.getElem?_toList]; exact hv)
        refine loopS ((Walks.list hh3 _ l hneI items).toS) s.heap.objs.size
          hSf xs hsz (by omega) hval (items.size - 0) 0 0 _ (by omega) (Nat.zero_le _) (Nat.le_refl _)
          ⟨⟨_, Heap.get?_push_size _ rfl, rfl, rfl⟩, (hl1.push _)⟩ ?hS0 ?hR
        case hS0 =>
          exact (SetS.at (setS_fresh w) fun o e => Heap.get?_push_of_some _ e).congr (fun _ => rfl) rfl
        case hR =>
          intro s' m hm hml hS'
          obtain ⟨h', g', d', tk', os'⟩ := s'
          have eg : g' = s.gens := hm.gens
          have ed : d' = s.drawn := hm.drawn
          have eo : os' = s.os := hm.os
          subst eg; subst ed; subst eo
          show wpAny _ _ _ _ _ _
          refine wpAny_pure ?_
          show wpAny _ _ (ret Value.none) _ _ _
          rw [← hsz, List.take_length] at hS'
          refine wpAny_pure ⟨rfl, h', tk', m, rfl, by omega, hS', fun b o e => ?_⟩
          have hb := Heap.lt_size e
          have hb1 : b ≠ s.heap.objs.size := Nat.ne_of_lt hb
          have hb2 : b ≠ (s.heap.push { cls := .type "set", dict := none, data := .set #[] 0 (.fresh 0 0 (!w.params.followText "set-order")) }).objs.size := by
            rw [Heap.size_push]; exact Nat.ne_of_lt (Nat.lt_succ_of_lt hb)
          exact hm.heap b o (by simp only [List.mem_cons, List.mem_singleton, List.not_mem_nil, or_false, not_or]; exact ⟨hb1, hb2⟩) (Heap.get?_push_of_some _ (Heap.get?_push_of_some _ e))
      · cases r₂ with
        | error e => exact hr₂
        | ok fl₂ =>
          cases fl₂ with
          | ret r =>
            obtain ⟨rfl, h', tk, m, rfl, hml, hS', hk'⟩ := hr₂
            repeat (any_goals (first | assumption | wp_step))
            exact h _ _ _ hml hS' hk'
          | _ => exact hr₂.elim
    | _ => exact hr.elim
end
section
variable {P : Program} {w : World} {A : Around} {E : Value → Shared → Prop} {s : Shared} {a : Addr} {S : Str → Bool} {n : Nat}
def TxtV (v : Value) (b : Str) : Prop := ∃ t, v = Value.str b t
theorem txts_of : ∀ vs : List Value, (∀ v ∈ vs, ∃ k t, v = Value.str k t) → PySem.W.EachIs TxtV vs (vs.map fun v => match v with | .str k _ => k | _ => Str.empty)
  | [], _ => .nil
  | v :: vs, h => by
    obtain ⟨k, t, rfl⟩ := h v List.mem_cons_self
    exact .cons ⟨t, rfl⟩ (txts_of vs fun u hu => h u (List.mem_cons_of_mem _ hu))
theorem sorted_setS {Q : Value → Shared → Prop} (R : SetS P w s.heap a S n) (hh : A.handled = none) (hn1 : n ≤ 100000) (hu : A.units + 20 < cLine)
    (hQ : ∀ s' p (out : Array Value) (c : Nat) (zs : List Str), (∀ b o, s.heap.get? b = some o → s'.heap.get? b = some o) → s'.gens = s.gens → s'.os = s.os → s.heap.objs.size ≤ p →
      s'.heap.get? p = some (seqObj "list" out c) → PySem.W.EachIs TxtV out.toList zs → zs.Nodup → (∀ k, k ∈ zs ↔ S k = true) → zs.Pairwise (fun x y => x.cps.toList ≤ y.cps.toList) → Q (.ref p) s') :
    wpAny (model P w) A (call (.builtin "sorted") [.ref a]) Q E s := by
  obtain ⟨o, es, ep, t, ho, hex, hd, g, nd, hm, hb, hf, hn, hr, hl⟩ := R
  refine Calls.call_function_entry kind_sorted plain_sorted entry_sorted (args_sorted1 _) ?_
  unfold Builtin.«sorted»
  refine wpAny_bind (m := checkCount "sorted" 1 1 _) (wpAny_pure ?_)
  refine wpAny_bind (collect_set (A := A.in1) hh ⟨o, ho, hex.1, hd⟩ hf hb hr hl fun s1 vs k1 hz g1 o1 pm => ?_)
  have hvl : vs.length = n := by rw [pm.length_eq, List.length_map, Array.length_toList]; exact hn
  have eI := txts_of vs fun v hv => by
    obtain ⟨e, he, q⟩ := List.mem_map.mp (pm.mem_iff.mp hv)
    obtain ⟨k, tk, h1, _⟩ := g e he
    exact ⟨k, tk, by rw [← q]; exact h1⟩
  generalize hbs : (vs.map fun v => match v with | .str k _ => k | _ => Str.empty) = bs at eI
  have pk : bs.Perm (es.toList.map keyS) := by
    have q := pm.map (fun v => match v with | Value.str k _ => k | _ => Str.empty)
    rw [hbs, List.map_map] at q
    exact q
  refine wpAny_bind (wpAny_newList ?_ (by rw [hvl, sizeLine_eq]; omega))
  have hoL : (s1.heap.push (seqObj "list" vs.toArray 0)).get? s1.heap.objs.size = some (seqObj "list" vs.toArray 0) := Heap.get?_push_size _ rfl
  have hbl : bs.length = n := by rw [← hbs, List.length_map]; exact hvl
  refine wpAny_bind (wpAny_holding (PySem.W.list_sort_data (R := TxtV) (bs := bs) (enc := fun b => PyData.str b) hoL eI ?_ ?_ ?_ (by rw [hbl, sizeLine_eq]; omega) ?_ fun out hol he => ?_))
  · exact eI.mono fun v b ⟨tk, e⟩ => ⟨[], by rw [e]; exact .str b tk, by simp⟩
  · exact PySem.W.AllAlike.of fun x y => rfl
  · exact PySem.W.Sortable.others fun x => ⟨fun z => (nomatch z), fun xs z => nomatch z⟩
  · intro b hb
    show A.in1.units + 1 + (PyData.str b).depth < cLine
    rw [Around.in1_units]
    have h2 : (PyData.str b).depth = 0 := rfl
    omega
  · obtain ⟨c, hc⟩ := sortedHeap_at (vs := vs) (out := out.toArray) hoL
    have pn : (bs.mergeSort (PySem.W.dataLe false fun b => PyData.str b)).Perm (es.toList.map keyS) := (List.mergeSort_perm _ _).trans pk
    refine wpAny_pure ⟨_, rfl, hQ _ s1.heap.objs.size out.toArray c (bs.mergeSort (PySem.W.dataLe false fun b => PyData.str b)) (fun b u e => ?_) g1 o1 hz hc (by simpa using he) (pn.nodup_iff.mpr nd) (fun k => by rw [pn.mem_iff, ← hm k]) ?_⟩
    · have q := k1 b u e
      have hlt := Heap.lt_size q
      show (sortedHeap (s1.heap.push (seqObj "list" vs.toArray 0)) s1.heap.objs.size vs out.toArray).get? b = some u
      rw [sortedHeap_old (Nat.ne_of_lt hlt) (by rw [size_push']; exact Nat.lt_succ_of_lt hlt)]
      exact Heap.get?_push_of_some _ q
    · have e : PySem.W.dataLe false (fun b : Str => PyData.str b) = fun a b => decide (a.cps.toList ≤ b.cps.toList) := PySem.W.dataLe_str fun b => b
      rw [e]
      have p := List.pairwise_mergeSort (le := fun a b : Str => decide (a.cps.toList ≤ b.cps.toList)) (fun a b c h1 h2 => decide_eq_true (List.le_trans (of_decide_eq_true h1) (of_decide_eq_true h2))) (fun a b => by
        rw [Bool.or_eq_true, decide_eq_true_eq, decide_eq_true_eq]
        exact List.le_total _ _) bs
      exact p.imp fun h => of_decide_eq_true h
end
end Vr

/-! Texts in order. -/
namespace Vr
open PySem PySem.Spec PyProof.Rows L2
theorem str_ext {x y : Str} (h : x.cps.toList = y.cps.toList) : x = y := Str.ext' (Array.toList_inj.mp h)
/-- the texts of a list, in order, none twice -/
def srtS (xs : List Str) : List Str := (xs.eraseDups).mergeSort fun a b => decide (a.cps.toList ≤ b.cps.toList)
theorem le_anti {a b : Str} (h1 : a.cps.toList ≤ b.cps.toList) (h2 : b.cps.toList ≤ a.cps.toList) : a = b := str_ext (List.le_antisymm h1 h2)
/-- lists in order with the same members, none twice, are one -/
theorem ord_eq : ∀ (xs ys : List Str), xs.Nodup → ys.Nodup → xs.Pairwise (fun a b => a.cps.toList ≤ b.cps.toList) → ys.Pairwise (fun a b => a.cps.toList ≤ b.cps.toList) → (∀ k, k ∈ xs ↔ k ∈ ys) → xs = ys
  | [], [], _, _, _, _, _ => rfl
  | [], y :: ys, _, _, _, _, h => absurd ((h y).2 List.mem_cons_self) (by simp)
  | x :: xs, [], _, _, _, _, h => absurd ((h x).1 List.mem_cons_self) (by simp)
  | x :: xs, y :: ys, n1, n2, p1, p2, h => by
    rw [List.nodup_cons] at n1 n2
    rw [List.pairwise_cons] at p1 p2
    have e : x = y := by
      rcases List.mem_cons.mp ((h x).1 List.mem_cons_self) with e | hx
      · exact e
      · rcases List.mem_cons.mp ((h y).2 List.mem_cons_self) with e | hy
        · exact e.symm
        · exact le_anti (p1.1 y hy) (p2.1 x hx)
    subst e
    rw [ord_eq xs ys n1.2 n2.2 p1.2 p2.2 fun k => ?_]
    constructor
    · intro hk
      rcases List.mem_cons.mp ((h k).1 (List.mem_cons_of_mem _ hk)) with rfl | q
      · exact absurd hk n1.1
      · exact q
    · intro hk
      rcases List.mem_cons.mp ((h k).2 (List.mem_cons_of_mem _ hk)) with rfl | q
      · exact absurd hk n2.1
      · exact q
theorem srt_mem (xs : List Str) (k : Str) : k ∈ srtS xs ↔ k ∈ xs := by
  unfold srtS
  rw [(List.mergeSort_perm _ _).mem_iff, List.mem_eraseDups]
theorem srt_ord (xs : List Str) : (srtS xs).Pairwise fun a b => a.cps.toList ≤ b.cps.toList := by
  have p := List.pairwise_mergeSort (le := fun a b : Str => decide (a.cps.toList ≤ b.cps.toList)) (fun a b c h1 h2 => decide_eq_true (List.le_trans (of_decide_eq_true h1) (of_decide_eq_true h2))) (fun a b => by
    rw [Bool.or_eq_true, decide_eq_true_eq, decide_eq_true_eq]
    exact List.le_total _ _) xs.eraseDups
  exact p.imp fun h => of_decide_eq_true h
theorem erase_nodup : ∀ (n : Nat) (xs : List Str), xs.length ≤ n → xs.eraseDups.Nodup
  | _, [], _ => List.nodup_nil
  | 0, x :: xs, h => by simp at h
  | n + 1, x :: xs, h => by
    rw [List.eraseDups_cons, List.nodup_cons]
    refine ⟨fun z => ?_, erase_nodup n _ (Nat.le_trans (List.length_filter_le _ _) (by simpa using h))⟩
    rw [List.mem_eraseDups, List.mem_filter] at z
    simp at z
theorem srt_nodup (xs : List Str) : (srtS xs).Nodup := (List.mergeSort_perm _ _).nodup_iff.mpr (erase_nodup _ xs (Nat.le_refl _))
/-- what sorted(set(..)) gives is srtS -/
theorem srt_of {xs zs : List Str} (n : zs.Nodup) (p : zs.Pairwise fun a b => a.cps.toList ≤ b.cps.toList) (h : ∀ k, k ∈ zs ↔ xs.any (· == k) = true) : zs = srtS xs :=
  ord_eq zs _ n (srt_nodup xs) p (srt_ord xs) fun k => by
    rw [h, srt_mem, List.any_eq_true]
    constructor
    · rintro ⟨x, hx, e⟩
      rw [← beq_iff_eq.mp e]
      exact hx
    · intro hk
      exact ⟨k, hk, beq_self_eq_true k⟩
/-- lists with the same members give the same -/
theorem srt_congr {xs ys : List Str} (h : ∀ k, k ∈ xs ↔ k ∈ ys) : srtS xs = srtS ys :=
  ord_eq _ _ (srt_nodup xs) (srt_nodup ys) (srt_ord xs) (srt_ord ys) fun k => by rw [srt_mem, srt_mem, h]
end Vr

/-! The small language over data: its terms, what they ask. -/
namespace Vr
open PySem PySem.Spec PyProof.Rows L2

/-- an exception: its class's name, its field -/
structure Xn where
  cls : Str
  fld : Option (Str × Dt)
abbrev DK := Dt → Store → Prop
abbrev XR := Xn → Store → Prop
/-- what a def does, by data; ex: what it gives where it is plain and can be computed -/
structure Fn where
  /-- the list that it hands back is new -/
  own : Bool
  ex : List Dt → Option Dt
  run : List Dt → Store → DK → XR → Prop
  mono : ∀ ds S Q Q' R R', (∀ d S, Q d S → Q' d S) → (∀ x S, R x S → R' x S) → run ds S Q R → run ds S Q' R'
  ok : ∀ ds d S Q R, ex ds = some d → Q d S → run ds S Q R
def opt {α : Type} (x : Option α) (k : α → Prop) : Prop := match x with
  | some a => k a
  | none => False
theorem opt_some {α : Type} {a : α} {k : α → Prop} : opt (some a) k = k a := rfl
theorem opt_none {α : Type} {k : α → Prop} : opt (none : Option α) k = False := rfl
theorem opt_mono {α : Type} {x : Option α} {k k' : α → Prop} (h : ∀ a, k a → k' a) (q : opt x k) : opt x k' := by
  cases x with
  | none => exact q
  | some a => exact h a q
theorem opt_eq {α : Type} {x : Option α} {k : α → Prop} (q : opt x k) : ∃ a, x = some a ∧ k a := by
  cases x with
  | none => exact q.elim
  | some a => exact ⟨a, rfl, q⟩
/-- a def that gives one datum, and changes nothing -/
def Fn.pure (own : Bool) (m : List Dt → Option Dt) : Fn := ⟨own, m, fun ds S Q _ => opt (m ds) fun d => Q d S, fun _ _ _ _ _ _ h _ q => opt_mono (fun _ => h _ _) q, fun ds d S Q R e q => by rw [e]; exact q⟩

/-! ### operations on data -/
def tru : Dt → Option Bool
  | .non => some false
  | .bl b => some b
  | .int i => some (i != 0)
  | .str s => some ((s.length : Int) != 0)
  | .tup ds => some (!ds.isEmpty)
  | .lst ds => some (!ds.isEmpty)
  | .hdl _ => none
  | .dct _ => none
def signs (s : Str) : List Dt := s.cps.toList.map fun c => .str ⟨#[c]⟩
def items : Dt → Option (List Dt)
  | .tup ds => some ds
  | .lst ds => some ds
  | .str s => some (signs s)
  | _ => none
mutual
def toPy : Dt → PyData
  | .non => .none
  | .bl b => .bool b
  | .int i => .int i
  | .str s => .str s
  | .tup ds => .tuple (toPys ds)
  | .lst ds => .list (toPys ds)
  | .hdl _ => .dict []
  | .dct _ => .dict []
def toPys : List Dt → List PyData
  | [] => []
  | d :: ds => toPy d :: toPys ds
end
/-- no handle, no dict within, and not deeper than n -/
def okD : Nat → Dt → Bool
  | _, .non => true
  | _, .bl _ => true
  | _, .int _ => true
  | _, .str _ => true
  | n + 1, .tup ds => ds.all (okD n)
  | n + 1, .lst ds => ds.all (okD n)
  | _, _ => false
abbrev deep : Nat := 12
def plainD (d : Dt) : Bool := okD deep d
def eqD (a b : Dt) : Bool := PyData.eqv (toPy a) (toPy b)

inductive Bop where
  | add | sub | mul | mod | fdiv | pow
  deriving DecidableEq
def binD : Bop → Dt → Dt → Option Dt
  | .add, .int i, .int j => some (.int (i + j))
  | .add, .str x, .str y => if x.length + y.length ≤ sizeLine then some (.str (x ++ y)) else none
  | .add, .lst xs, .lst ys => if xs.length + ys.length ≤ sizeLine then some (.lst (xs ++ ys)) else none
  | .add, .tup xs, .tup ys => if xs.length + ys.length ≤ sizeLine then some (.tup (xs ++ ys)) else none
  | .sub, .int i, .int j => some (.int (i - j))
  | .mul, .int i, .int j => if (-(2 ^ 64) < i ∧ i < 2 ^ 64) ∨ (-(2 ^ 64) < j ∧ j < 2 ^ 64) then some (.int (i * j)) else none
  | .mul, .tup xs, .int k => if xs.isEmpty = false ∧ 2 ≤ k ∧ k ≤ 1000 ∧ xs.length ≤ 1000 then some (.tup (List.replicate k.toNat xs).flatten) else if (xs.isEmpty || k == 1) = true ∧ -(2 ^ 63) ≤ k ∧ k < 2 ^ 63 then some (.tup xs) else if k ≤ 0 ∧ -(2 ^ 63) ≤ k then some (.tup []) else none
  | .mul, .lst xs, .int k => if -(2 ^ 63) ≤ k ∧ k < 2 ^ 63 ∧ xs.length * k.toNat ≤ sizeLine then some (.lst (List.replicate k.toNat xs).flatten) else none
  | .mod, .int i, .int j => if j ≠ 0 then some (.int (i.fmod j)) else none
  | .fdiv, .int i, .int j => if j ≠ 0 ∧ j.natAbs < 1073741824 then some (.int (i.fdiv j)) else none
  | .pow, .int i, .int j => if 0 ≤ j ∧ j ≤ 1000000 ∧ i.natAbs < 2 ^ 64 then some (.int (i ^ j.toNat)) else none
  | _, _, _ => none
inductive Cop where
  | eq | ne | lt | le | gt | ge | isin | notin | isN | notN
  deriving DecidableEq
def inD (a : Dt) (ds : List Dt) : Bool := ds.any fun z => eqD z a
def cmpD : Cop → Dt → Dt → Option Bool
  | .eq, a, b => if plainD a && plainD b then some (eqD a b) else none
  | .ne, a, b => if plainD a && plainD b then some (!eqD a b) else none
  | .lt, .int i, .int j => some (decide (i < j))
  | .le, .int i, .int j => some (decide (i ≤ j))
  | .gt, .int i, .int j => some (decide (j < i))
  | .ge, .int i, .int j => some (decide (j ≤ i))
  | .lt, .str x, .str y => some (decide (x.cps.toList < y.cps.toList))
  | .le, .str x, .str y => some (!decide (y.cps.toList < x.cps.toList))
  | .isin, .str x, .str y => some (!(Builtin.Str.occurrences y x 0 y.length 1).isEmpty)
  | .notin, .str x, .str y => some (!(!(Builtin.Str.occurrences y x 0 y.length 1).isEmpty))
  | .isin, a, .lst ds => if plainD a && plainD (.lst ds) then some (inD a ds) else none
  | .isin, a, .tup ds => if plainD a && plainD (.tup ds) then some (inD a ds) else none
  | .notin, a, .lst ds => if plainD a && plainD (.lst ds) then some (!inD a ds) else none
  | .notin, a, .tup ds => if plainD a && plainD (.tup ds) then some (!inD a ds) else none
  | .isN, a, .non => some (match a with | .non => true | _ => false)
  | .notN, a, .non => some (match a with | .non => false | _ => true)
  | _, _, _ => none
def idxD : Dt → Dt → Option Dt
  | .lst ds, .int i => atI ds i
  | .tup ds, .int i => atI ds i
  | .str s, .int i => (atI s.cps.toList i).map fun c => .str ⟨#[c]⟩
  | _, _ => none
def cutD {α : Type} (xs : List α) (lo hi : Option Int) : List α := (xs.drop (HT.sIx xs.length 0 lo)).take (HT.sIx xs.length xs.length hi - HT.sIx xs.length 0 lo)
/-- a slice's end: nothing (true), or an int -/
def endD : Bool → Dt → Option (Option Int)
  | true, _ => some none
  | false, .int i => some (some i)
  | _, _ => none
def slcD : Dt → Option Int → Option Int → Option Dt
  | .lst ds, lo, hi => some (.lst (cutD ds lo hi))
  | .tup ds, lo, hi => some (.tup (cutD ds lo hi))
  | .str s, lo, hi => some (.str ⟨(cutD s.cps.toList lo hi).toArray⟩)
  | _, _, _ => none
inductive Blt where
  | len | all | any | tup | lst | int
  deriving DecidableEq
def boolsOf : List Dt → Option (List Bool)
  | [] => some []
  | .bl b :: ds => (boolsOf ds).map (b :: ·)
  | _ :: _ => none
def bltD : Blt → Dt → Option Dt
  | .len, .lst ds => some (.int ds.length)
  | .len, .tup ds => some (.int ds.length)
  | .len, .str s => some (.int s.length)
  | .all, .lst ds => (boolsOf ds).map fun bs => .bl (bs.all id)
  | .any, .lst ds => (boolsOf ds).map fun bs => .bl (bs.any id)
  | .tup, .lst ds => some (.tup ds)
  | .tup, .tup ds => some (.tup ds)
  | .lst, .lst ds => some (.lst ds)
  | .lst, .tup ds => some (.lst ds)
  | .int, .int i => some (.int i)
  | .int, .bl b => some (.int (if b then 1 else 0))
  | _, _ => none
def tyD : Dt → Option String
  | .non => some "NoneType"
  | .bl _ => some "bool"
  | .int _ => some "int"
  | .str _ => some "str"
  | .tup _ => some "tuple"
  | .lst _ => some "list"
  | .hdl _ => none
  | .dct _ => none
/-- isinstance of one of some of the types bool, int, str, list, tuple -/
def isiD (ts : List String) (d : Dt) : Option Bool := (tyD d).map fun t => ts.contains t || (t == "bool" && ts.contains "int")
inductive Mth where
  | count | index | join | split
  deriving DecidableEq
def strsOf : List Dt → Option (List Str)
  | [] => some []
  | .str s :: ds => (strsOf ds).map (s :: ·)
  | _ :: _ => none
def mthD : Mth → Dt → Dt → Option Dt
  | .count, .tup ds, a => if plainD a && plainD (.tup ds) then some (.int (ds.countP fun z => eqD z a : Nat)) else none
  | .index, .tup ds, a => if plainD a && plainD (.tup ds) then (ds.findIdx? fun z => eqD z a).map fun j => .int (j : Nat) else none
  | .index, .lst ds, a => if plainD a && plainD (.lst ds) then (ds.findIdx? fun z => eqD z a).map fun j => .int (j : Nat) else none
  | .join, .str s, .lst ds => (strsOf ds).bind fun xs => if (xs.map (·.length)).sum + xs.length * s.length ≤ 16777216 ∧ (Txt.join s xs).length ≤ sizeLine then some (.str (Txt.join s xs)) else none
  | .join, .str s, .tup ds => (strsOf ds).bind fun xs => if (xs.map (·.length)).sum + xs.length * s.length ≤ 16777216 ∧ (Txt.join s xs).length ≤ sizeLine then some (.str (Txt.join s xs)) else none
  | .split, .str a, .str b => if (b.length == 0) = false ∧ a.length + 2 ≤ sizeLine ∧ ((Txt.split a b).all fun x => decide (x.length ≤ sizeLine)) = true then some (.lst ((Txt.split a b).map .str)) else none
  | _, _, _ => none
/-- whether a method may be asked of a datum -/
def recv : Mth → Dt → Bool
  | .count, .tup _ => true
  | .index, .tup _ => true
  | .index, .lst _ => true
  | .join, .str _ => true
  | .split, .str _ => true
  | _, _ => false
def conD : Const → Option Dt
  | .none => some .non
  | .bool b => some (.bl b)
  | .int i => some (.int i)
  | .str s => some (.str s)
  | _ => none

/-! ### terms -/
/-- a target: a name's slot, or several -/
inductive Pt where
  | one (i : Nat) | many (is : List Nat)
  deriving DecidableEq
def bindL : List Nat → List Dt → Ev → Option Ev
  | [], [], ρ => some ρ
  | i :: is, d :: ds, ρ => bindL is ds (ρ.set i (.sh d))
  | _, _, _ => none
def bindP : Pt → Dt → Ev → Option Ev
  | .one i, d, ρ => some (ρ.set i (.sh d))
  | .many is, .tup ds, ρ => bindL is ds ρ
  | _, _, _ => none
def wipeE (ρ : Ev) : List Nat → Ev
  | [] => ρ
  | i :: is => (wipeE ρ is).set i .no
/-- without the lists of our own -/
def noOw (ρ : Ev) : Ev := ρ.map fun s => match s with
  | .ow _ => .no
  | s => s
/-- what is asked of an object: a method, a property, len, ==, [i], bool -/
inductive Obk where
  | meth (c m : Str) | prop (c x : Str) | len (c : Str) | eq (c : Str) | item (c : Str) | tru (c : Str)
  deriving DecidableEq
def Obk.cls : Obk → Str
  | .meth c _ => c
  | .prop c _ => c
  | .len c => c
  | .eq c => c
  | .item c => c
  | .tru c => c
/-- what is asked of its fields -/
def Obk.nat : Obk → List (Str × Dt) → Prop
  | .meth _ m, fs => fs.lookup m = none
  | _, _ => True
def isOb (c : Str) (v : Dt) (S : Store) : Prop := match v with
  | .hdl k => match S[k]? with
    | some (.obj c' _) => c' = c
    | _ => False
  | _ => False
def obOk (o : Obk) (v : Dt) (S : Store) : Prop := match v with
  | .hdl k => match S[k]? with
    | some (.obj c fs) => c = o.cls ∧ o.nat fs
    | _ => False
  | _ => False
def Obk.arg : Obk → Dt → List Dt → Store → Prop
  | .eq c, v, ds, S => ∃ d, ds = [d] ∧ isOb c d S ∧ isOb c v S
  | _, _, _, _ => True
/-- what it may give -/
def Obk.fit : Obk → Dt → Prop
  | .len _, d => ∃ n : Nat, d = .int n ∧ n < 4611686018427387904
  | .eq _, d => ∃ b, d = .bl b
  | .tru _, d => ∃ b, d = .bl b
  | _, _ => True
def Obk.exc : Obk → XR → XR
  | .prop _ _, _ => fun _ _ => False
  | _, R => R
/-- a field is stored -/
def putD (f : Str) (v : Dt) : List (Str × Dt) → List (Str × Dt)
  | [] => [(f, v)]
  | (g, x) :: r => if g = f then (g, v) :: r else (g, x) :: putD f v r
def putDs : List Str → List Dt → List (Str × Dt) → List (Str × Dt)
  | x :: xs, d :: ds, fs => putDs xs ds (putD x d fs)
  | _, _, fs => fs
def valS (kvs : List (Str × Str)) (s : Str) : Option Str := (kvs.find? fun kv => decide (kv.1 = s)).map (·.2)
def putS (kvs : List (Str × Str)) (s t : Str) : List (Str × Str) := if (kvs.any fun kv => decide (kv.1 = s)) = true then kvs.map (fun kv => if kv.1 = s then (kv.1, t) else kv) else kvs ++ [(s, t)]
/-- the dict that a handle stands for -/
def dctAt (S : Store) (v : Dt) : Option (Nat × List (Str × Str)) := match v with
  | .hdl k => match S[k]? with
    | some (.dct kvs) => some (k, kvs)
    | _ => none
  | _ => none
def dinD (kvs : List (Str × Str)) : Dt → Option Bool
  | .str s => some (valS kvs s).isSome
  | .non => some false
  | _ => none
def dgetD (kvs : List (Str × Str)) : Dt → Option Str
  | .str s => valS kvs s
  | _ => none
inductive Ex where
  | nil | cons (e es : Ex)
  | var (i : Nat) | bor (i : Nat)
  | con (c : Const) | glo (x : Str) (d : Dt)
  | tup (es : Ex) | lst (es : Ex)
  | bin (o : Bop) (a b : Ex) | neg (a : Ex)
  | cmp (o : Cop) (a b : Ex) | chn (o o' : Cop) (a b c : Ex)
  | and (a b : Ex) | or (a b : Ex) | not (a : Ex) | ite (t a b : Ex)
  | idx (a b : Ex) | slc (a lo hi : Ex)
  | call (f : Str) (F : Fn) (es : Ex)
  | blt (b : Blt) (a : Ex) | isi (ts : List String) (a : Ex) | mth (m : Mth) (a b : Ex)
  | lc (own : List (Str × Nat)) (pt : Pt) (src tst elt : Ex)
  | enu (a : Ex) | zip (a b : Ex) | rng (a : Ex)
  | hix (i j : Nat)
  | srs (a : Ex) | callb (f : Str) (F : Fn) (es : Ex)
  | rev (a : Ex) | lc2 (own : List (Str × Nat)) (pt : Pt) (src tst : Ex) (js : List Nat) (pt1 : Pt) (src1 tst1 elt : Ex)
  | fld (c x : Str) (a : Ex) | ob (o : Obk) (F : Fn) (a es : Ex) | mk (c : Str) (F : Fn) (es : Ex) | inob (c : Str) (F : Fn) (a b : Ex) | isc (c : Str) (a : Ex)
  | dnew | din (a b : Ex) | dget (a b : Ex) | dkeys (a : Ex)
/-- sorted(set(texts)) -/
def srsD : Dt → Option Dt
  | .lst ds => (strsOf ds).bind fun xs => if xs.length ≤ 4000 then some (.lst ((srtS xs).map .str)) else none
  | _ => none
/-- a[::-1] -/
def revD : Dt → Option Dt
  | .lst ds => some (.lst ds.reverse)
  | .tup ds => some (.tup ds.reverse)
  | _ => none
def flatD : Dt → Bool
  | .non => true
  | .bl _ => true
  | .int _ => true
  | .str _ => true
  | _ => false
/-- a pure call whose arguments are read for its time alone: flat is what it gives -/
def cbD (F : Fn) (ds : List Dt) : Option Dt := if ds.all plainD then (F.ex ds).bind fun d => if flatD d then some d else none else none
/-- what is read in a deck, what may be written there -/
def deckRd (n j : Nat) (Q : Dt → Prop) : Prop := match j with
  | 0 => ∀ x : Int, Q (.int x)
  | 1 => ∀ y : Int, 0 ≤ y → y < 2147483579 → Q (.int y)
  | 2 => ∀ c : Int, 0 ≤ c → c + n ≤ deckTop → Q (.int c)
  | _ => False
def deckWr (n j : Nat) (d : Dt) (Q : Rs → Prop) : Prop := match j, d with
  | 0, .int _ => Q (.deck n)
  | 2, .int c => ∃ n' : Nat, 0 ≤ c ∧ c + n' ≤ deckTop ∧ Q (.deck n')
  | _, _ => False
/-- nothing is written there -/
def Ex.no : Ex → Bool
  | .nil => true
  | _ => false
def enumD : Nat → List Dt → List Dt
  | _, [] => []
  | k, d :: ds => .tup [.int k, d] :: enumD (k + 1) ds
def zipD : List Dt → List Dt → List Dt
  | a :: as, b :: bs => .tup [a, b] :: zipD as bs
  | _, _ => []
/-- what enumerate, zip give -/
def enuS : Dt → Option (List Dt)
  | .lst ds => some (enumD 0 ds)
  | .tup ds => some (enumD 0 ds)
  | _ => none
def zipS : Dt → Dt → Option (List Dt)
  | .lst xs, .lst ys => some (zipD xs ys)
  | .tup xs, .tup ys => some (zipD xs ys)
  | _, _ => none
/-- a comprehension's turns -/
def wpLc (turn : Dt → Store → (Option Dt → Store → Prop) → Prop) : List Dt → List Dt → Store → (List Dt → Store → Prop) → Prop
  | [], acc, S, Q => Q acc S
  | x :: xs, acc, S, Q => turn x S fun r S1 => match r with
    | some d => acc.length < sizeLine ∧ wpLc turn xs (acc ++ [d]) S1 Q
    | none => wpLc turn xs acc S1 Q
/-- a comprehension's outer turns, each of which may add several -/
def wpLL (turn : Dt → List Dt → Store → (List Dt → Store → Prop) → Prop) : List Dt → List Dt → Store → (List Dt → Store → Prop) → Prop
  | [], acc, S, Q => Q acc S
  | x :: xs, acc, S, Q => turn x acc S fun acc' S1 => wpLL turn xs acc' S1 Q
/-- what an expression asks: R of what is raised, Q of the datum -/
def wp : Ex → XR → Ev → Store → DK → Prop
  | .nil, _, _, S, Q => Q (.tup []) S
  | .cons e es, R, ρ, S, Q => wp e R ρ S fun d S1 => wp es R ρ S1 fun r S2 => match r with
    | .tup ds => Q (.tup (d :: ds)) S2
    | _ => False
  | .var i, _, ρ, S, Q => match ρ[i]? with
    | some (.sh d) => Q d S
    | _ => False
  | .bor i, _, ρ, S, Q => match ρ[i]? with
    | some (.sh d) => Q d S
    | some (.ow ds) => Q (.lst ds) S
    | _ => False
  | .con c, _, _, S, Q => opt (conD c) fun d => Q d S
  | .glo _ d, _, _, S, Q => Q d S
  | .tup es, R, ρ, S, Q => wp es R ρ S fun r S1 => match r with
    | .tup ds => ds.length ≤ sizeLine ∧ Q (.tup ds) S1
    | _ => False
  | .lst es, R, ρ, S, Q => wp es R ρ S fun r S1 => match r with
    | .tup ds => ds.length ≤ sizeLine ∧ Q (.lst ds) S1
    | _ => False
  | .bin o a b, R, ρ, S, Q => wp a R ρ S fun x S1 => wp b R ρ S1 fun y S2 => opt (binD o x y) fun d => Q d S2
  | .neg a, R, ρ, S, Q => wp a R ρ S fun x S1 => match x with
    | .int i => Q (.int (-i)) S1
    | _ => False
  | .cmp o a b, R, ρ, S, Q => wp a R ρ S fun x S1 => wp b R ρ S1 fun y S2 => opt (cmpD o x y) fun k => Q (.bl k) S2
  | .chn o o' a b c, R, ρ, S, Q => wp a R ρ S fun x S1 => wp b R ρ S1 fun y S2 => opt (cmpD o x y) fun k => match k with
    | true => wp c R ρ S2 fun z S3 => opt (cmpD o' y z) fun k' => Q (.bl k') S3
    | false => Q (.bl false) S2
  | .and a b, R, ρ, S, Q => wp a R ρ S fun x S1 => opt (tru x) fun k => match k with
    | true => wp b R ρ S1 Q
    | false => Q x S1
  | .or a b, R, ρ, S, Q => wp a R ρ S fun x S1 => opt (tru x) fun k => match k with
    | true => Q x S1
    | false => wp b R ρ S1 Q
  | .not a, R, ρ, S, Q => wp a R ρ S fun x S1 => opt (tru x) fun k => Q (.bl (!k)) S1
  | .ite t a b, R, ρ, S, Q => wp t R ρ S fun x S1 => opt (tru x) fun k => match k with
    | true => wp a R ρ S1 Q
    | false => wp b R ρ S1 Q
  | .idx a b, R, ρ, S, Q => wp a R ρ S fun x S1 => wp b R ρ S1 fun y S2 => opt (idxD x y) fun d => Q d S2
  | .slc a lo hi, R, ρ, S, Q => wp a R ρ S fun x S1 => wp lo R ρ S1 fun l S2 => opt (endD lo.no l) fun l => wp hi R ρ S2 fun h S3 => opt (endD hi.no h) fun h => opt (slcD x l h) fun d => Q d S3
  | .call _ F es, R, ρ, S, Q => wp es R ρ S fun r S1 => match r with
    | .tup ds => F.run ds S1 Q R
    | _ => False
  | .blt b a, R, ρ, S, Q => wp a R ρ S fun x S1 => opt (bltD b x) fun d => Q d S1
  | .isi ts a, R, ρ, S, Q => wp a R ρ S fun x S1 => opt (isiD ts x) fun k => Q (.bl k) S1
  | .mth m a b, R, ρ, S, Q => wp a R ρ S fun x S1 => recv m x = true ∧ wp b R ρ S1 fun y S2 => opt (mthD m x y) fun d => Q d S2
  | .lc own pt src tst elt, R, ρ, S, Q => wp src R ρ S fun d S1 => opt (items d) fun ds =>
      wpLc (fun x S2 k => opt (bindP pt x (wipeE ρ (own.map (·.2)))) fun ρ' => wp tst (fun _ _ => False) ρ' S2 fun t S3 => opt (tru t) fun c => match c with
        | true => wp elt (fun _ _ => False) ρ' S3 fun d S4 => k (some d) S4
        | false => k none S3) ds [] S1 fun acc S5 => Q (.lst acc) S5
  | .enu a, R, ρ, S, Q => wp a R ρ S fun d S1 => opt (enuS d) fun ds => Q (.lst ds) S1
  | .zip a b, R, ρ, S, Q => wp a R ρ S fun x S1 => wp b R ρ S1 fun y S2 => opt (zipS x y) fun ds => Q (.lst ds) S2
  | .rng a, R, ρ, S, Q => wp a R ρ S fun x S1 => match x with
    | .int n => if n < 2 ^ 62 ∧ -(2 ^ 62) ≤ n then Q (.lst ((List.range n.toNat).map fun i => .int (i : Nat))) S1 else False
    | _ => False
  | .hix i j, _, ρ, S, Q => match ρ[i]? with
    | some (.sh (.hdl k)) => (match S[k]? with
      | some (.deck n) => deckRd n j fun d => Q d S
      | _ => False)
    | _ => False
  | .srs a, R, ρ, S, Q => wp a R ρ S fun x S1 => opt (srsD x) fun d => Q d S1
  | .callb _ F es, R, ρ, S, Q => wp es R ρ S fun r S1 => match r with
    | .tup ds => opt (cbD F ds) fun d => Q d S1
    | _ => False
  | .fld c x a, R, ρ, S, Q => wp a R ρ S fun v S1 => match v with
    | .hdl k => match S1[k]? with
      | some (.obj c' fs) => c' = c ∧ opt (fs.lookup x) fun d => Q d S1
      | _ => False
    | _ => False
  | .ob o F a es, R, ρ, S, Q => wp a R ρ S fun v S1 => obOk o v S1 ∧ wp es R ρ S1 fun r S2 => match r with
    | .tup ds => o.arg v ds S2 ∧ F.run (v :: ds) S2 (fun d S3 => o.fit d ∧ Q d S3) (o.exc R)
    | _ => False
  | .mk c F es, R, ρ, S, Q => wp es R ρ S fun r S1 => match r with
    | .tup ds => F.run (.hdl S1.length :: ds) (S1 ++ [.obj c []]) (fun d S2 => d = .non ∧ Q (.hdl S1.length) S2) R
    | _ => False
  | .inob c F a b, R, ρ, S, Q => wp a R ρ S fun v S1 => wp b R ρ S1 fun o S2 => isOb c o S2 ∧ F.run [o, v] S2 (fun d S3 => (∃ k, d = .bl k) ∧ Q d S3) R
  | .isc c a, R, ρ, S, Q => wp a R ρ S fun v S1 => match v with
    | .hdl k => match S1[k]? with
      | some (.obj c' _) => c' = c ∧ Q (.bl true) S1
      | _ => False
    | .dct _ => False
    | _ => Q (.bl false) S1
  | .dnew, _, _, S, Q => Q (.hdl S.length) (S ++ [.dct []])
  | .din a b, R, ρ, S, Q => wp a R ρ S fun x S1 => wp b R ρ S1 fun v S2 => opt (dctAt S2 v) fun p => opt (dinD p.2 x) fun k => Q (.bl k) S2
  | .dget a b, R, ρ, S, Q => wp a R ρ S fun v S1 => wp b R ρ S1 fun x S2 => opt (dctAt S2 v) fun p => opt (dgetD p.2 x) fun t => Q (.str t) S2
  | .dkeys a, R, ρ, S, Q => wp a R ρ S fun v S1 => opt (dctAt S1 v) fun p => Q (.lst (p.2.map fun q => .str q.1)) S1
  | .rev a, R, ρ, S, Q => wp a R ρ S fun x S1 => opt (revD x) fun d => Q d S1
  | .lc2 own pt src tst js pt1 src1 tst1 elt, R, ρ, S, Q => wp src R ρ S fun d S1 => opt (items d) fun ds =>
      wpLL (fun x acc S2 k => opt (bindP pt x (wipeE (noOw ρ) (own.map (·.2)))) fun ρ' => wp tst (fun _ _ => False) ρ' S2 fun t S3 => opt (tru t) fun c => match c with
        | true => wp src1 (fun _ _ => False) ρ' S3 fun d1 S4 => opt (items d1) fun es =>
            wpLc (fun y S5 k1 => opt (bindP pt1 y (wipeE ρ' js)) fun ρ2 => wp tst1 (fun _ _ => False) ρ2 S5 fun t1 S6 => opt (tru t1) fun c1 => match c1 with
              | true => wp elt (fun _ _ => False) ρ2 S6 fun d2 S7 => k1 (some d2) S7
              | false => k1 none S6) es acc S4 k
        | false => k acc S3) ds [] S1 fun acc S8 => Q (.lst acc) S8

theorem wpLc_mono {turn turn' : Dt → Store → (Option Dt → Store → Prop) → Prop} (ht : ∀ x S k k', (∀ r S, k r S → k' r S) → turn x S k → turn' x S k') :
    ∀ (xs acc : List Dt) (S : Store) (Q Q' : List Dt → Store → Prop), (∀ r S, Q r S → Q' r S) → wpLc turn xs acc S Q → wpLc turn' xs acc S Q'
  | [], _, _, _, _, h, q => h _ _ q
  | x :: xs, acc, S, Q, Q', h, q => ht x S _ _ (fun r S1 z => by
      cases r with
      | none => exact wpLc_mono ht xs acc S1 Q Q' h z
      | some d => exact ⟨z.1, wpLc_mono ht xs _ S1 Q Q' h z.2⟩) q
theorem wpLL_mono {turn turn' : Dt → List Dt → Store → (List Dt → Store → Prop) → Prop} (ht : ∀ x a S k k', (∀ r S, k r S → k' r S) → turn x a S k → turn' x a S k') :
    ∀ (xs acc : List Dt) (S : Store) (Q Q' : List Dt → Store → Prop), (∀ r S, Q r S → Q' r S) → wpLL turn xs acc S Q → wpLL turn' xs acc S Q'
  | [], _, _, _, _, h, q => h _ _ q
  | x :: xs, acc, S, Q, Q', h, q => ht x acc S _ _ (fun r S1 z => wpLL_mono ht xs r S1 Q Q' h z) q
theorem wp_mono : ∀ (e : Ex) (R R' : XR) (ρ : Ev) (S : Store) (Q Q' : DK), (∀ x S, R x S → R' x S) → (∀ d S, Q d S → Q' d S) → wp e R ρ S Q → wp e R' ρ S Q' := by
  intro e
  induction e with
  | nil => intro R R' ρ S Q Q' hR h q; exact h _ _ q
  | cons e es ih1 ih2 =>
    intro R R' ρ S Q Q' hR h q
    refine ih1 _ _ _ _ _ _ hR (fun d S1 q1 => ih2 _ _ _ _ _ _ hR (fun r S2 q2 => ?_) q1) q
    cases r with
    | tup ds => exact h _ _ q2
    | _ => exact q2.elim
  | var i =>
    intro R R' ρ S Q Q' hR h q
    unfold wp at q ⊢
    split at q
    · exact h _ _ q
    · exact q.elim
  | bor i =>
    intro R R' ρ S Q Q' hR h q
    unfold wp at q ⊢
    split at q
    · exact h _ _ q
    · exact h _ _ q
    · exact q.elim
  | con c => intro R R' ρ S Q Q' hR h q; exact opt_mono (fun d => h d S) q
  | glo x d => intro R R' ρ S Q Q' hR h q; exact h _ _ q
  | tup es ih =>
    intro R R' ρ S Q Q' hR h q
    refine ih _ _ _ _ _ _ hR (fun r S1 q1 => ?_) q
    cases r with
    | tup ds => exact ⟨q1.1, h _ _ q1.2⟩
    | _ => exact q1.elim
  | lst es ih =>
    intro R R' ρ S Q Q' hR h q
    refine ih _ _ _ _ _ _ hR (fun r S1 q1 => ?_) q
    cases r with
    | tup ds => exact ⟨q1.1, h _ _ q1.2⟩
    | _ => exact q1.elim
  | bin o a b iha ihb => intro R R' ρ S Q Q' hR h q; exact iha _ _ _ _ _ _ hR (fun x S1 q1 => ihb _ _ _ _ _ _ hR (fun y S2 q2 => opt_mono (fun d => h d S2) q2) q1) q
  | neg a iha =>
    intro R R' ρ S Q Q' hR h q
    refine iha _ _ _ _ _ _ hR (fun r S1 q1 => ?_) q
    cases r with
    | int i => exact h _ _ q1
    | _ => exact q1.elim
  | cmp o a b iha ihb => intro R R' ρ S Q Q' hR h q; exact iha _ _ _ _ _ _ hR (fun x S1 q1 => ihb _ _ _ _ _ _ hR (fun y S2 q2 => opt_mono (fun d => h _ S2) q2) q1) q
  | chn o o' a b c iha ihb ihc =>
    intro R R' ρ S Q Q' hR h q
    refine iha _ _ _ _ _ _ hR (fun x S1 q1 => ihb _ _ _ _ _ _ hR (fun y S2 q2 => opt_mono (fun k q3 => ?_) q2) q1) q
    cases k with
    | true => exact ihc _ _ _ _ _ _ hR (fun z S3 q4 => opt_mono (fun d => h _ S3) q4) q3
    | false => exact h _ _ q3
  | and a b iha ihb =>
    intro R R' ρ S Q Q' hR h q
    refine iha _ _ _ _ _ _ hR (fun x S1 q1 => opt_mono (fun k q3 => ?_) q1) q
    cases k with
    | true => exact ihb _ _ _ _ _ _ hR h q3
    | false => exact h _ _ q3
  | or a b iha ihb =>
    intro R R' ρ S Q Q' hR h q
    refine iha _ _ _ _ _ _ hR (fun x S1 q1 => opt_mono (fun k q3 => ?_) q1) q
    cases k with
    | true => exact h _ _ q3
    | false => exact ihb _ _ _ _ _ _ hR h q3
  | not a iha => intro R R' ρ S Q Q' hR h q; exact iha _ _ _ _ _ _ hR (fun x S1 q1 => opt_mono (fun k => h _ S1) q1) q
  | ite t a b iht iha ihb =>
    intro R R' ρ S Q Q' hR h q
    refine iht _ _ _ _ _ _ hR (fun x S1 q1 => opt_mono (fun k q3 => ?_) q1) q
    cases k with
    | true => exact iha _ _ _ _ _ _ hR h q3
    | false => exact ihb _ _ _ _ _ _ hR h q3
  | idx a b iha ihb => intro R R' ρ S Q Q' hR h q; exact iha _ _ _ _ _ _ hR (fun x S1 q1 => ihb _ _ _ _ _ _ hR (fun y S2 q2 => opt_mono (fun d => h d S2) q2) q1) q
  | slc a lo hi iha ihl ihh => intro R R' ρ S Q Q' hR h q; exact iha _ _ _ _ _ _ hR (fun x S1 q1 => ihl _ _ _ _ _ _ hR (fun y S2 q2 => opt_mono (fun l q4 => ihh _ _ _ _ _ _ hR (fun z S3 q3 => opt_mono (fun u q5 => opt_mono (fun d => h d S3) q5) q3) q4) q2) q1) q
  | call f F es ih =>
    intro R R' ρ S Q Q' hR h q
    refine ih _ _ _ _ _ _ hR (fun r S1 q1 => ?_) q
    cases r with
    | tup ds => exact F.mono _ _ _ _ _ _ h hR q1
    | _ => exact q1.elim
  | blt b a iha => intro R R' ρ S Q Q' hR h q; exact iha _ _ _ _ _ _ hR (fun x S1 q1 => opt_mono (fun k => h _ S1) q1) q
  | isi b a iha => intro R R' ρ S Q Q' hR h q; exact iha _ _ _ _ _ _ hR (fun x S1 q1 => opt_mono (fun k => h _ S1) q1) q
  | mth m a b iha ihb => intro R R' ρ S Q Q' hR h q; exact iha _ _ _ _ _ _ hR (fun x S1 q1 => ⟨q1.1, ihb _ _ _ _ _ _ hR (fun y S2 q2 => opt_mono (fun d => h d S2) q2) q1.2⟩) q
  | lc own pt src tst elt ihs iht ihe =>
    intro R R' ρ S Q Q' hR h q
    refine ihs _ _ _ _ _ _ hR (fun d S1 q1 => opt_mono (fun ds q2 => wpLc_mono (fun x S2 k k' hk q3 => opt_mono (fun ρ' q4 => iht _ _ _ _ _ _ (fun _ _ z => z) (fun t S3 q5 => opt_mono (fun c q6 => ?_) q5) q4) q3) _ _ _ _ _ (fun r S5 => h _ S5) q2) q1) q
    cases c with
    | true => exact ihe _ _ _ _ _ _ (fun _ _ z => z) (fun d S4 => hk _ S4) q6
    | false => exact hk _ _ q6
  | enu a iha => intro R R' ρ S Q Q' hR h q; exact iha _ _ _ _ _ _ hR (fun x S1 q1 => opt_mono (fun k => h _ S1) q1) q
  | zip a b iha ihb => intro R R' ρ S Q Q' hR h q; exact iha _ _ _ _ _ _ hR (fun x S1 q1 => ihb _ _ _ _ _ _ hR (fun y S2 q2 => opt_mono (fun d => h _ S2) q2) q1) q
  | rng a iha =>
    intro R R' ρ S Q Q' hR h q
    refine iha _ _ _ _ _ _ hR (fun r S1 q1 => ?_) q
    cases r with
    | int n =>
      dsimp only at q1 ⊢
      split at q1
      · rename_i c
        rw [if_pos c]
        exact h _ _ q1
      · exact q1.elim
    | _ => exact q1.elim
  | hix i j =>
    intro R R' ρ S Q Q' hR h q
    unfold wp at q ⊢
    split at q
    · split at q
      · unfold deckRd at q ⊢
        split at q
        · exact fun x => h _ _ (q x)
        · exact fun x a b => h _ _ (q x a b)
        · exact fun x a b => h _ _ (q x a b)
        · exact q.elim
      · exact q.elim
    · exact q.elim
  | srs a iha => intro R R' ρ S Q Q' hR h q; exact iha _ _ _ _ _ _ hR (fun x S1 q1 => opt_mono (fun k => h _ S1) q1) q
  | callb f F es ih =>
    intro R R' ρ S Q Q' hR h q
    refine ih _ _ _ _ _ _ hR (fun r S1 q1 => ?_) q
    cases r with
    | tup ds => exact opt_mono (fun k => h _ S1) q1
    | _ => exact q1.elim
  | fld c x a iha =>
    intro R R' ρ S Q Q' hR h q
    refine iha _ _ _ _ _ _ hR (fun v S1 q1 => ?_) q
    cases v with
    | hdl k =>
      dsimp only at q1 ⊢
      split at q1
      · rename_i e
        try rw [e]
        exact ⟨q1.1, opt_mono (fun d => h d S1) q1.2⟩
      · exact q1.elim
    | _ => exact q1.elim
  | ob o F a es iha ihe =>
    intro R R' ρ S Q Q' hR h q
    refine iha _ _ _ _ _ _ hR (fun v S1 q1 => ⟨q1.1, ihe _ _ _ _ _ _ hR (fun r S2 q2 => ?_) q1.2⟩) q
    cases r with
    | tup ds =>
      refine ⟨q2.1, F.mono _ _ _ _ _ _ (fun d S3 z => ⟨z.1, h _ _ z.2⟩) (fun x S3 z => ?_) q2.2⟩
      cases o <;> first | exact hR x S3 z | exact z
    | _ => exact q2.elim
  | mk c F es ihe =>
    intro R R' ρ S Q Q' hR h q
    refine ihe _ _ _ _ _ _ hR (fun r S2 q2 => ?_) q
    cases r with
    | tup ds => exact F.mono _ _ _ _ _ _ (fun d S3 z => ⟨z.1, h _ _ z.2⟩) hR q2
    | _ => exact q2.elim
  | inob c F a b iha ihb => intro R R' ρ S Q Q' hR h q; exact iha _ _ _ _ _ _ hR (fun v S1 q1 => ihb _ _ _ _ _ _ hR (fun o S2 q2 => ⟨q2.1, F.mono _ _ _ _ _ _ (fun d S3 z => ⟨z.1, h _ _ z.2⟩) hR q2.2⟩) q1) q
  | isc c a iha =>
    intro R R' ρ S Q Q' hR h q
    refine iha _ _ _ _ _ _ hR (fun v S1 q1 => ?_) q
    cases v with
    | hdl k =>
      dsimp only at q1 ⊢
      split at q1
      · rename_i e
        try rw [e]
        exact ⟨q1.1, h _ _ q1.2⟩
      · exact q1.elim
    | dct _ => exact q1.elim
    | _ => exact h _ _ q1
  | dnew => intro R R' ρ S Q Q' hR h q; exact h _ _ q
  | din a b iha ihb => intro R R' ρ S Q Q' hR h q; exact iha _ _ _ _ _ _ hR (fun x S1 q1 => ihb _ _ _ _ _ _ hR (fun v S2 q2 => opt_mono (fun p q3 => opt_mono (fun k => h _ S2) q3) q2) q1) q
  | dget a b iha ihb => intro R R' ρ S Q Q' hR h q; exact iha _ _ _ _ _ _ hR (fun x S1 q1 => ihb _ _ _ _ _ _ hR (fun v S2 q2 => opt_mono (fun p q3 => opt_mono (fun k => h _ S2) q3) q2) q1) q
  | dkeys a iha => intro R R' ρ S Q Q' hR h q; exact iha _ _ _ _ _ _ hR (fun x S1 q1 => opt_mono (fun p => h _ S1) q1) q
  | rev a iha => intro R R' ρ S Q Q' hR h q; exact iha _ _ _ _ _ _ hR (fun x S1 q1 => opt_mono (fun k => h _ S1) q1) q
  | lc2 own pt src tst js pt1 src1 tst1 elt ihs iht ihs1 iht1 ihe =>
    intro R R' ρ S Q Q' hR h q
    refine ihs _ _ _ _ _ _ hR (fun d S1 q1 => opt_mono (fun ds q2 => wpLL_mono (fun x a S2 k k' hk q3 => opt_mono (fun ρ' q4 => iht _ _ _ _ _ _ (fun _ _ z => z) (fun t S3 q5 => opt_mono (fun c q6 => ?_) q5) q4) q3) _ _ _ _ _ (fun r S5 => h _ S5) q2) q1) q
    cases c with
    | true =>
      refine ihs1 _ _ _ _ _ _ (fun _ _ z => z) (fun d1 S4 q7 => opt_mono (fun es q8 => wpLc_mono (fun y S5 k1 k1' hk1 q9 => opt_mono (fun ρ2 q10 => iht1 _ _ _ _ _ _ (fun _ _ z => z) (fun t1 S6 q11 => opt_mono (fun c1 q12 => ?_) q11) q10) q9) _ _ _ _ _ hk q8) q7) q6
      cases c1 with
      | true => exact ihe _ _ _ _ _ _ (fun _ _ z => z) (fun d S7 => hk1 _ S7) q12
      | false => exact hk1 _ _ q12
    | false => exact hk _ _ q6

/-! ### statements -/
structure Ed where
  nx : Ev → Store → Prop
  rt : DK
/-- a target in a row of targets: a name, a field of what a name holds -/
inductive Tg where
  | nm (i : Nat) | fd (c : Str) (i : Nat) (x : Str)
  deriving DecidableEq
def wtg : List Tg → List Dt → Ev → Store → (Ev → Store → Prop) → Prop
  | [], [], ρ, S, k => k ρ S
  | .nm i :: ts, d :: ds, ρ, S, k => wtg ts ds (ρ.set i (.sh d)) S k
  | .fd c i x :: ts, d :: ds, ρ, S, k => match ρ[i]? with
    | some (.sh (.hdl j)) => match S[j]? with
      | some (.obj c' fs) => c' = c ∧ fs.length < 900 ∧ wtg ts ds ρ (S.set j (.obj c (putD x d fs))) k
      | _ => False
    | _ => False
  | _, _, _, _, _ => False
theorem wtg_mono : ∀ (ts : List Tg) (ds : List Dt) (ρ : Ev) (S : Store) (k k' : Ev → Store → Prop), (∀ ρ S, k ρ S → k' ρ S) → wtg ts ds ρ S k → wtg ts ds ρ S k'
  | [], [], _, _, _, _, h, q => h _ _ q
  | .nm i :: ts, d :: ds, ρ, S, k, k', h, q => wtg_mono ts ds _ S k k' h q
  | .fd c i x :: ts, d :: ds, ρ, S, k, k', h, q => by
    unfold wtg at q ⊢
    split at q
    · split at q
      · exact ⟨q.1, q.2.1, wtg_mono ts ds _ _ k k' h q.2.2⟩
      · exact q.elim
    · exact q.elim
  | [], _ :: _, _, _, _, _, _, q => q.elim
  | .nm _ :: _, [], _, _, _, _, _, q => q.elim
  | .fd _ _ _ :: _, [], _, _, _, _, _, q => q.elim
inductive Sm where
  | skip | seq (a b : Sm)
  | asg (i : Nat) (e : Ex) | own (i : Nat) (e : Ex)
  | par (i j : Nat) (oi oj : Bool) (a b : Ex) | unp (is : List Nat) (e : Ex)
  | ite (t : Ex) (a b : Sm) | for_ (pt : Pt) (src : Ex) (body : Sm) | whl (t : Ex) (body : Sm)
  | par3 (i j l : Nat) (oi oj ol : Bool) (a b c : Ex)
  | ret (e : Ex) | reto (i : Nat) | retn | exp (e : Ex)
  | app (i : Nat) (e : Ex) | xtd (i : Nat) (e : Ex) | sti (i : Nat) (k e : Ex)
  | shr (i : Nat) | rse (x : Str) | fail | hst (i j : Nat) (e : Ex)
  | fset (c x : Str) (o e : Ex) | utg (ts : List Tg) (e : Ex) | oset (c : Str) (F : Fn) (o k e : Ex) | oaug (c : Str) (F : Fn) (i : Nat) (e : Ex)
  | fob (pt : Pt) (i : Nat) (e : Ex) | dpop (i kx l : Nat) (e : Ex)
  | pops (i : Nat) | popa (j i : Nat) | upop (is : List Nat) (f : Str) (F : Fn) (es : Ex) (i : Nat)
def wfor (pt : Pt) (body : Ev → Store → (Ev → Store → Prop) → Prop) : List Dt → Ev → Store → (Ev → Store → Prop) → Prop
  | [], ρ, S, k => k ρ S
  | d :: ds, ρ, S, k => opt (bindP pt d ρ) fun ρ' => body ρ' S fun ρ'' S' => wfor pt body ds ρ'' S' k
/-- a slot of a new value, shared or our own -/
def slotOf (o : Bool) (d : Dt) : Option Sl := match o, d with
  | false, d => some (.sh d)
  | true, .lst ds => some (.ow ds)
  | true, _ => none
def wps : Sm → XR → Ev → Store → Ed → Prop
  | .skip, _, ρ, S, D => D.nx ρ S
  | .seq a b, R, ρ, S, D => wps a R ρ S { D with nx := fun ρ' S' => wps b R ρ' S' D }
  | .asg i e, R, ρ, S, D => wp e R ρ S fun d S1 => D.nx (ρ.set i (.sh d)) S1
  | .own i e, R, ρ, S, D => wp e R ρ S fun d S1 => opt (slotOf true d) fun s => D.nx (ρ.set i s) S1
  | .par i j oi oj a b, R, ρ, S, D => wp a R ρ S fun x S1 => wp b R ρ S1 fun y S2 => opt (slotOf oi x) fun s => opt (slotOf oj y) fun t => D.nx ((ρ.set i s).set j t) S2
  | .unp is e, R, ρ, S, D => wp e R ρ S fun d S1 => opt (bindP (.many is) d ρ) fun ρ' => D.nx ρ' S1
  | .ite t a b, R, ρ, S, D => wp t R ρ S fun x S1 => opt (tru x) fun k => match k with
    | true => wps a R ρ S1 D
    | false => wps b R ρ S1 D
  | .for_ pt src body, R, ρ, S, D => wp src R ρ S fun d S1 => opt (items d) fun ds => wfor pt (fun ρ' S' k => wps body R ρ' S' { D with nx := k }) ds ρ S1 D.nx
  | .whl t body, R, ρ, S, D => ∃ I : Nat → Ev → Store → Prop, (∃ m, I m ρ S) ∧ ∀ m ρ S, I m ρ S → wp t R ρ S fun x S1 => opt (tru x) fun k => match k with
    | true => wps body R ρ S1 { D with nx := fun ρ' S' => ∃ m', m' < m ∧ I m' ρ' S' }
    | false => D.nx ρ S1
  | .ret e, R, ρ, S, D => wp e R ρ S D.rt
  | .par3 i j l oi oj ol a b c, R, ρ, S, D => wp a R ρ S fun x S1 => wp b R ρ S1 fun y S2 => wp c R ρ S2 fun z S3 => opt (slotOf oi x) fun s => opt (slotOf oj y) fun t => opt (slotOf ol z) fun u => D.nx (((ρ.set i s).set j t).set l u) S3
  | .reto i, _, ρ, S, D => match ρ[i]? with
    | some (.ow ds) => D.rt (.lst ds) S
    | _ => False
  | .retn, _, _, S, D => D.rt .non S
  | .exp e, R, ρ, S, D => wp e R ρ S fun _ S1 => D.nx ρ S1
  | .app i e, R, ρ, S, D => match ρ[i]? with
    | some (.ow ds) => wp e R ρ S fun d S1 => ds.length < sizeLine ∧ D.nx (ρ.set i (.ow (ds ++ [d]))) S1
    | _ => False
  | .xtd i e, R, ρ, S, D => match ρ[i]? with
    | some (.ow ds) => wp e R ρ S fun d S1 => match d with
      | .lst es => ds.length + es.length ≤ sizeLine ∧ D.nx (ρ.set i (.ow (ds ++ es))) S1
      | _ => False
    | _ => False
  | .sti i k e, R, ρ, S, D => match ρ[i]? with
    | some (.ow ds) => wp e R ρ S fun d S1 => wp k R ρ S1 fun j S2 => match j with
      | .int j => opt (ixN ds.length j) fun j => D.nx (ρ.set i (.ow (ds.set j d))) S2
      | _ => False
    | _ => False
  | .shr i, _, ρ, S, D => match ρ[i]? with
    | some (.ow ds) => D.nx (ρ.set i (.sh (.lst ds))) S
    | _ => D.nx ρ S
  | .rse x, R, _, S, _ => R ⟨x, none⟩ S
  | .fail, _, _, _, _ => False
  | .hst i j e, R, ρ, S, D => match ρ[i]? with
    | some (.sh (.hdl k)) => wp e R ρ S fun d S1 => match S1[k]? with
      | some (.deck n) => deckWr n j d fun r => D.nx ρ (S1.set k r)
      | _ => False
    | _ => False
  | .fset c x o e, R, ρ, S, D => wp e R ρ S fun d S1 => wp o R ρ S1 fun v S2 => match v with
    | .hdl k => match S2[k]? with
      | some (.obj c' fs) => c' = c ∧ fs.length < 900 ∧ D.nx ρ (S2.set k (.obj c (putD x d fs)))
      | _ => False
    | _ => False
  | .utg ts e, R, ρ, S, D => wp e R ρ S fun d S1 => match d with
    | .tup ds => ds.length = ts.length ∧ wtg ts ds ρ S1 D.nx
    | _ => False
  | .oset c F o k e, R, ρ, S, D => wp e R ρ S fun d S1 => wp o R ρ S1 fun v S2 => isOb c v S2 ∧ wp k R ρ S2 fun i S3 => F.run [v, i, d] S3 (fun _ S4 => D.nx ρ S4) R
  | .oaug c F i e, R, ρ, S, D => match ρ[i]? with
    | some (.sh v) => isOb c v S ∧ wp e R ρ S fun d S1 => F.run [v, d] S1 (fun r S2 => D.nx (ρ.set i (.sh r)) S2) R
    | _ => False
  | .fob pt i e, R, ρ, S, D => match ρ[i]? with
    | some (.ow ds) => wfor pt (fun ρ' S' k => wp e R ρ' S' fun _ S1 => k ρ' S1) ds ρ S D.nx
    | _ => False
  | .dpop i kx l e, R, ρ, S, D => match ρ[l]? with
    | some (.ow ds) => wp e R ρ S fun z S1 => match z with
      | .int z => 0 ≤ z ∧ z < ds.length ∧ ds.length < 1000 ∧ opt ds[z.toNat]? fun d => match ρ[i]?, ρ[kx]?, d with
        | some (.sh v), some (.sh (.str s)), .str t => opt (dctAt S1 v) fun p => p.2.length < 1000 ∧ D.nx (ρ.set l (.ow (ds.eraseIdx z.toNat))) (S1.set p.1 (.dct (putS p.2 s t)))
        | _, _, _ => False
      | _ => False
    | _ => False
  | .pops i, _, ρ, S, D => match ρ[i]? with
    | some (.ow ds) => opt ds.getLast? fun _ => D.nx (ρ.set i (.ow ds.dropLast)) S
    | _ => False
  | .popa j i, _, ρ, S, D => match ρ[i]? with
    | some (.ow ds) => opt ds.getLast? fun d => D.nx ((ρ.set i (.ow ds.dropLast)).set j (.sh d)) S
    | _ => False
  | .upop is _ F es i, R, ρ, S, D => wp es R ρ S fun r S1 => match r, ρ[i]? with
    | .tup ds, some (.ow (p :: ps)) => F.run (ds ++ [p]) S1 (fun d S2 => opt (bindP (.many is) d (ρ.set i (.ow ps))) fun ρ' => D.nx ρ' S2) R
    | _, _ => False
theorem wfor_mono {pt : Pt} {body body' : Ev → Store → (Ev → Store → Prop) → Prop} (hb : ∀ ρ S k k', (∀ ρ S, k ρ S → k' ρ S) → body ρ S k → body' ρ S k') :
    ∀ (ds : List Dt) (ρ : Ev) (S : Store) (k k' : Ev → Store → Prop), (∀ ρ S, k ρ S → k' ρ S) → wfor pt body ds ρ S k → wfor pt body' ds ρ S k'
  | [], _, _, _, _, h, q => h _ _ q
  | d :: ds, ρ, S, k, k', h, q => opt_mono (fun ρ' q1 => hb _ _ _ _ (fun ρ'' S' q2 => wfor_mono hb ds ρ'' S' k k' h q2) q1) q
theorem wps_mono : ∀ (s : Sm) (R R' : XR) (ρ : Ev) (S : Store) (D D' : Ed), (∀ x S, R x S → R' x S) → (∀ ρ S, D.nx ρ S → D'.nx ρ S) → (∀ d S, D.rt d S → D'.rt d S) → wps s R ρ S D → wps s R' ρ S D' := by
  intro s
  induction s with
  | skip => intro R R' ρ S D D' hR hn hr q; exact hn _ _ q
  | seq a b iha ihb => intro R R' ρ S D D' hR hn hr q; exact iha R R' ρ S ⟨fun ρ' S' => wps b R ρ' S' D, D.rt⟩ ⟨fun ρ' S' => wps b R' ρ' S' D', D'.rt⟩ hR (fun ρ' S' q1 => ihb R R' ρ' S' D D' hR hn hr q1) hr q
  | asg i e => intro R R' ρ S D D' hR hn hr q; exact wp_mono _ _ _ _ _ _ _ hR (fun d S1 => hn _ S1) q
  | own i e => intro R R' ρ S D D' hR hn hr q; exact wp_mono _ _ _ _ _ _ _ hR (fun d S1 q1 => opt_mono (fun s => hn _ S1) q1) q
  | par i j oi oj a b => intro R R' ρ S D D' hR hn hr q; exact wp_mono _ _ _ _ _ _ _ hR (fun x S1 q1 => wp_mono _ _ _ _ _ _ _ hR (fun y S2 q2 => opt_mono (fun s q3 => opt_mono (fun t => hn _ S2) q3) q2) q1) q
  | unp is e => intro R R' ρ S D D' hR hn hr q; exact wp_mono _ _ _ _ _ _ _ hR (fun d S1 q1 => opt_mono (fun s => hn _ S1) q1) q
  | ite t a b iha ihb =>
    intro R R' ρ S D D' hR hn hr q
    refine wp_mono _ _ _ _ _ _ _ hR (fun d S1 q1 => opt_mono (fun k q2 => ?_) q1) q
    cases k with
    | true => exact iha _ _ _ _ _ _ hR hn hr q2
    | false => exact ihb _ _ _ _ _ _ hR hn hr q2
  | for_ pt src body ihb =>
    intro R R' ρ S D D' hR hn hr q
    exact wp_mono _ _ _ _ _ _ _ hR (fun d S1 q1 => opt_mono (fun ds q2 => wfor_mono (fun ρ S k k' hk q3 => ihb R R' ρ S ⟨k, D.rt⟩ ⟨k', D'.rt⟩ hR hk hr q3) _ _ _ _ _ hn q2) q1) q
  | whl t body ihb =>
    intro R R' ρ S D D' hR hn hr q
    obtain ⟨I, h0, h1⟩ := q
    refine ⟨I, h0, fun m ρ S hI => wp_mono _ _ _ _ _ _ _ hR (fun d S1 q1 => opt_mono (fun k q2 => ?_) q1) (h1 m ρ S hI)⟩
    cases k with
    | true => exact ihb R R' ρ S1 ⟨fun ρ' S' => ∃ m', m' < m ∧ I m' ρ' S', D.rt⟩ ⟨fun ρ' S' => ∃ m', m' < m ∧ I m' ρ' S', D'.rt⟩ hR (fun _ _ z => z) hr q2
    | false => exact hn _ _ q2
  | ret e => intro R R' ρ S D D' hR hn hr q; exact wp_mono _ _ _ _ _ _ _ hR hr q
  | par3 i j l oi oj ol a b c => intro R R' ρ S D D' hR hn hr q; exact wp_mono _ _ _ _ _ _ _ hR (fun x S1 q1 => wp_mono _ _ _ _ _ _ _ hR (fun y S2 q2 => wp_mono _ _ _ _ _ _ _ hR (fun z S3 q6 => opt_mono (fun s q3 => opt_mono (fun t q4 => opt_mono (fun u => hn _ S3) q4) q3) q6) q2) q1) q
  | reto i =>
    intro R R' ρ S D D' hR hn hr q
    unfold wps at q ⊢
    split at q
    · exact hr _ _ q
    · exact q.elim
  | retn => intro R R' ρ S D D' hR hn hr q; exact hr _ _ q
  | exp e => intro R R' ρ S D D' hR hn hr q; exact wp_mono _ _ _ _ _ _ _ hR (fun _ S1 => hn _ S1) q
  | app i e =>
    intro R R' ρ S D D' hR hn hr q
    unfold wps at q ⊢
    split at q
    · exact wp_mono _ _ _ _ _ _ _ hR (fun d S1 q1 => ⟨q1.1, hn _ _ q1.2⟩) q
    · exact q.elim
  | xtd i e =>
    intro R R' ρ S D D' hR hn hr q
    unfold wps at q ⊢
    split at q
    · refine wp_mono _ _ _ _ _ _ _ hR (fun d S1 q1 => ?_) q
      cases d with
      | lst es => exact ⟨q1.1, hn _ _ q1.2⟩
      | _ => exact q1.elim
    · exact q.elim
  | sti i k e =>
    intro R R' ρ S D D' hR hn hr q
    unfold wps at q ⊢
    split at q
    · refine wp_mono _ _ _ _ _ _ _ hR (fun d S1 q1 => wp_mono _ _ _ _ _ _ _ hR (fun j S2 q2 => ?_) q1) q
      cases j with
      | int j => exact opt_mono (fun j => hn _ S2) q2
      | _ => exact q2.elim
    · exact q.elim
  | shr i =>
    intro R R' ρ S D D' hR hn hr q
    unfold wps at q ⊢
    split at q
    · exact hn _ _ q
    · exact hn _ _ q
  | rse x => intro R R' ρ S D D' hR hn hr q; exact hR _ _ q
  | fail => intro R R' ρ S D D' hR hn hr q; exact q.elim
  | hst i j e =>
    intro R R' ρ S D D' hR hn hr q
    unfold wps at q ⊢
    split at q
    · refine wp_mono _ _ _ _ _ _ _ hR (fun d S1 q1 => ?_) q
      split at q1
      · unfold deckWr at q1 ⊢
        split at q1
        · exact hn _ _ q1
        · obtain ⟨n', a, b, q1⟩ := q1
          exact ⟨n', a, b, hn _ _ q1⟩
        · exact q1.elim
      · exact q1.elim
    · exact q.elim
  | fset c x o e =>
    intro R R' ρ S D D' hR hn hr q
    refine wp_mono _ _ _ _ _ _ _ hR (fun d S1 q1 => wp_mono _ _ _ _ _ _ _ hR (fun v S2 q2 => ?_) q1) q
    cases v with
    | hdl k =>
      dsimp only at q2 ⊢
      split at q2
      · rename_i e
        try rw [e]
        exact ⟨q2.1, q2.2.1, hn _ _ q2.2.2⟩
      · exact q2.elim
    | _ => exact q2.elim
  | utg ts e =>
    intro R R' ρ S D D' hR hn hr q
    refine wp_mono _ _ _ _ _ _ _ hR (fun d S1 q1 => ?_) q
    cases d with
    | tup ds => exact ⟨q1.1, wtg_mono _ _ _ _ _ _ hn q1.2⟩
    | _ => exact q1.elim
  | oset c F o k e =>
    intro R R' ρ S D D' hR hn hr q
    exact wp_mono _ _ _ _ _ _ _ hR (fun d S1 q1 => wp_mono _ _ _ _ _ _ _ hR (fun v S2 q2 => ⟨q2.1, wp_mono _ _ _ _ _ _ _ hR (fun i S3 q3 => F.mono _ _ _ _ _ _ (fun d S4 z => hn _ _ z) hR q3) q2.2⟩) q1) q
  | oaug c F i e =>
    intro R R' ρ S D D' hR hn hr q
    unfold wps at q ⊢
    split at q
    · exact ⟨q.1, wp_mono _ _ _ _ _ _ _ hR (fun d S1 q1 => F.mono _ _ _ _ _ _ (fun d S4 z => hn _ _ z) hR q1) q.2⟩
    · exact q.elim
  | fob pt i e =>
    intro R R' ρ S D D' hR hn hr q
    unfold wps at q ⊢
    split at q
    · exact wfor_mono (fun ρ S k k' hk q3 => wp_mono _ _ _ _ _ _ _ hR (fun _ S1 => hk _ S1) q3) _ _ _ _ _ hn q
    · exact q.elim
  | dpop i kx l e =>
    intro R R' ρ S D D' hR hn hr q
    unfold wps at q ⊢
    split at q
    · refine wp_mono _ _ _ _ _ _ _ hR (fun z S1 q1 => ?_) q
      cases z with
      | int z =>
        refine ⟨q1.1, q1.2.1, q1.2.2.1, opt_mono (fun d q2 => ?_) q1.2.2.2⟩
        split at q2
        · exact opt_mono (fun p q3 => ⟨q3.1, hn _ _ q3.2⟩) q2
        · exact q2.elim
      | _ => exact q1.elim
    · exact q.elim
  | pops i =>
    intro R R' ρ S D D' hR hn hr q
    unfold wps at q ⊢
    split at q
    · exact opt_mono (fun d => hn _ _) q
    · exact q.elim
  | popa j i =>
    intro R R' ρ S D D' hR hn hr q
    unfold wps at q ⊢
    split at q
    · exact opt_mono (fun d => hn _ _) q
    · exact q.elim
  | upop is f F es i =>
    intro R R' ρ S D D' hR hn hr q
    refine wp_mono _ _ _ _ _ _ _ hR (fun r S1 q1 => ?_) q
    cases r with
    | tup ds =>
      split at q1
      · rename_i e1 e2
        cases e1
        try rw [e2]
        exact F.mono _ _ _ _ _ _ (fun d S2 q2 => opt_mono (fun ρ' => hn _ _) q2) hR q1
      · exact q1.elim
    | _ => exact q1.elim
end Vr

/-! Data read by the library; the rules of operators and built-ins over data. -/
namespace Vr
open PySem PySem.Spec PyProof.Rows L2

/-! ### from what stands for a datum to the library's reading of data -/
theorem okD_mono : ∀ (n m : Nat) (d : Dt), n ≤ m → okD n d = true → okD m d = true := by
  intro n
  induction n with
  | zero =>
    intro m d _ h
    cases d <;> first | rfl | (cases m <;> rfl) | (exact absurd h (by simp [okD]))
  | succ n ih =>
    intro m d hm h
    obtain ⟨m', rfl⟩ : ∃ m', m = m' + 1 := ⟨m - 1, by omega⟩
    cases d with
    | tup ds =>
      have h' : ds.all (okD n) = true := h
      show ds.all (okD m') = true
      exact List.all_eq_true.mpr fun x hx => ih m' x (by omega) (List.all_eq_true.mp h' x hx)
    | lst ds =>
      have h' : ds.all (okD n) = true := h
      show ds.all (okD m') = true
      exact List.all_eq_true.mpr fun x hx => ih m' x (by omega) (List.all_eq_true.mp h' x hx)
    | non => rfl
    | bl _ => rfl
    | int _ => rfl
    | str _ => rfl
    | hdl _ => exact absurd h (by simp [okD])
    | dct _ => exact absurd h (by simp [okD])
theorem toPys_eq : ∀ ds : List Dt, toPys ds = ds.map toPy
  | [] => by simp [toPys]
  | d :: ds => by simp [toPys, toPys_eq ds]
theorem okD_plain : ∀ (n : Nat) (d : Dt), okD n d = true → (toPy d).plain = true ∧ (toPy d).depth ≤ n := by
  have list : ∀ (n : Nat), (∀ d : Dt, okD n d = true → (toPy d).plain = true ∧ (toPy d).depth ≤ n) → ∀ ds : List Dt, ds.all (okD n) = true → PyData.plainAll (toPys ds) = true ∧ PyData.depthAll (toPys ds) ≤ n := by
    intro n ih ds
    induction ds with
    | nil => intro _; exact ⟨by simp [toPys, PyData.plainAll], by simp [toPys, PyData.depthAll]⟩
    | cons d ds ihd =>
      intro h
      rw [List.all_cons, Bool.and_eq_true] at h
      obtain ⟨a1, a2⟩ := ih d h.1
      obtain ⟨b1, b2⟩ := ihd h.2
      exact ⟨by simp [toPys, PyData.plainAll, a1, b1], by simp only [toPys, PyData.depthAll]; omega⟩
  intro n
  induction n with
  | zero => intro d h; cases d <;> first | exact ⟨rfl, by simp [toPy, PyData.depth]⟩ | exact absurd h (by simp [okD])
  | succ n ih =>
    intro d h
    cases d with
    | tup ds =>
      obtain ⟨a, b⟩ := list n ih ds h
      exact ⟨by simp only [toPy, PyData.plain]; exact a, by simp only [toPy, PyData.depth]; omega⟩
    | lst ds =>
      obtain ⟨a, b⟩ := list n ih ds h
      exact ⟨by simp only [toPy, PyData.plain]; exact a, by simp only [toPy, PyData.depth]; omega⟩
    | non => exact ⟨rfl, by simp [toPy, PyData.depth]⟩
    | bl _ => exact ⟨rfl, by simp [toPy, PyData.depth]⟩
    | int _ => exact ⟨rfl, by simp [toPy, PyData.depth]⟩
    | str _ => exact ⟨rfl, by simp [toPy, PyData.depth]⟩
    | hdl _ => exact absurd h (by simp [okD])
    | dct _ => exact absurd h (by simp [okD])
theorem okD_list : ∀ (n : Nat) (ds : List Dt), ds.all (okD n) = true → PyData.plainAll (toPys ds) = true ∧ PyData.depthAll (toPys ds) ≤ n := by
  intro n ds
  induction ds with
  | nil => intro _; exact ⟨by simp [toPys, PyData.plainAll], by simp [toPys, PyData.depthAll]⟩
  | cons d ds ihd =>
    intro h
    rw [List.all_cons, Bool.and_eq_true] at h
    obtain ⟨a1, a2⟩ := okD_plain n d h.1
    obtain ⟨b1, b2⟩ := ihd h.2
    exact ⟨by simp [toPys, PyData.plainAll, a1, b1], by simp only [toPys, PyData.depthAll]; omega⟩

/-- what an expression's value is, behind it: shared, our own, or read for a moment -/
inductive Md where
  | sh | ow | bo
  deriving DecidableEq
/-- a list of our own that is read -/
def Bor (K : PySem.W.Frag) (W : Wl) (z : V) (ds : List Dt) : Prop := ∃ l vs, z = .ref l ∧ W.h l = some (.lst vs) ∧ RepL K W vs ds ∧ W.f l = none ∧ l ∉ W.ad
def RepB (K : PySem.W.Frag) (W : Wl) (z : V) (d : Dt) : Prop := Rep K W z d ∨ ∃ ds, d = .lst ds ∧ Bor K W z ds
/-- a new list of our own -/
def New (K : PySem.W.Frag) (W W' : Wl) (z : V) (ds : List Dt) : Prop := ∃ l vs, z = .ref l ∧ W'.h l = some (.lst vs) ∧ RepL K W' vs ds ∧ W'.f l = none ∧ l ∉ W'.ad ∧ W.h l = none
def Rz (K : PySem.W.Frag) (m : Md) (W W' : Wl) (z : V) (d : Dt) : Prop := match m with
  | .sh => Rep K W' z d
  | .bo => RepB K W' z d
  | .ow => (∀ ds, d = .lst ds → New K W W' z ds) ∧ ((∀ ds, d ≠ .lst ds) → Rep K W' z d)
theorem RepB.mono {K : PySem.W.Frag} {W W' : Wl} (e : Ext W W') {z : V} {d : Dt} (h : RepB K W z d) : RepB K W' z d := by
  rcases h with h | ⟨ds, rfl, l, vs, rfl, h1, h2, h3, h4⟩
  · exact .inl (h.mono e)
  · have n : W.h l ≠ none := by rw [h1]; exact fun z => nomatch z
    exact .inr ⟨ds, rfl, l, vs, rfl, e.h l _ h1 h4, h2.mono e, e.fr l h4 h3 n, fun q => (e.nw l q).elim h4 n⟩

section
variable {X : Cx} {pins : List (Addr × Obj)} {σ : L2.St} {s : Shared} {W : Wl}
mutual
theorem Rep.reads (I : Inv X pins σ W.h s) (hs : Same W.f W.h) : ∀ (n : Nat) (d : Dt) (v : V) (u : Value), okD n d = true → Rep X.K W v d → RelV v u → ∃ as, Reads s.heap u (toPy d) as
  | _, .non, _, _, _, h, r => by cases h; cases r; exact ⟨_, Reads.none⟩
  | _, .bl b, _, _, _, h, r => by cases h; cases r; exact ⟨_, Reads.bool b⟩
  | _, .int i, _, _, _, h, r => by cases h; obtain ⟨t, rfl⟩ := r; exact ⟨_, Reads.int i t⟩
  | _, .str x, _, _, _, h, r => by cases h; obtain ⟨t, rfl⟩ := r; exact ⟨_, Reads.str x t⟩
  | 0, .lst ds, _, _, ok, h, r => by simp [okD] at ok
  | 0, .tup ds, _, _, ok, h, r => by simp [okD] at ok
  | n + 1, .lst ds, _, _, ok, h, r => by
    cases h with
    | lst hq ha =>
      cases r
      obtain ⟨its, rv, ⟨o, m, ho, hc, _, hd⟩, _⟩ := I.list (hs.seq hq)
      obtain ⟨as, hr⟩ := RepL.reads I hs n ds _ its ok ha rv
      exact ⟨_, Reads.list ho hc hd hr⟩
  | n + 1, .tup ds, _, _, ok, h, r => by
    cases h with
    | tup hq ha =>
      cases r
      obtain ⟨its, rv, ⟨o, ho, hc, m, hd⟩, _⟩ := I.tuple (hq.same hs).sq
      obtain ⟨as, hr⟩ := RepL.reads I hs n ds _ its ok ha rv
      exact ⟨_, Reads.tuple ho hc hd hr⟩
  | 0, .hdl _, _, _, ok, _, _ => by simp [okD] at ok
  | n + 1, .hdl _, _, _, ok, _, _ => by simp [okD] at ok
  | 0, .dct _, _, _, ok, _, _ => by simp [okD] at ok
  | n + 1, .dct _, _, _, ok, _, _ => by simp [okD] at ok
theorem RepL.reads (I : Inv X pins σ W.h s) (hs : Same W.f W.h) : ∀ (n : Nat) (ds : List Dt) (vs : List V) (us : List Value), ds.all (okD n) = true → RepL X.K W vs ds → Vals vs us → ∃ as, ReadsAll s.heap us (toPys ds) as
  | _, [], _, _, _, h, r => by cases h; cases r; exact ⟨_, ReadsAll.nil⟩
  | n, d :: ds, _, _, ok, h, r => by
    rw [List.all_cons, Bool.and_eq_true] at ok
    cases h with
    | cons h1 h2 =>
      cases r with
      | cons r1 r2 =>
        obtain ⟨as, q1⟩ := Rep.reads I hs n d _ _ ok.1 h1 r1
        obtain ⟨bs, q2⟩ := RepL.reads I hs n ds _ _ ok.2 h2 r2
        exact ⟨_, ReadsAll.cons q1 q2⟩
end
theorem RepB.reads (I : Inv X pins σ W.h s) (hs : Same W.f W.h) {n : Nat} {d : Dt} {v : V} {u : Value} (ok : okD n d = true) (h : RepB X.K W v d) (r : RelV v u) : ∃ as, Reads s.heap u (toPy d) as := by
  rcases h with h | ⟨ds, rfl, l, vs, rfl, h1, h2, _, _⟩
  · exact Rep.reads I hs n d v u ok h r
  · cases n with
    | zero => simp [okD] at ok
    | succ n =>
      cases r
      obtain ⟨its, rv, ⟨o, m, ho, hc, _, hd⟩, _⟩ := I.list (SqL.of h1)
      obtain ⟨as, hr⟩ := RepL.reads I hs n ds _ its ok h2 rv
      exact ⟨_, Reads.list ho hc hd hr⟩
theorem RepB.seq (hs : Same W.f W.h) {K : PySem.W.Frag} {v : V} {ds : List Dt} (h : RepB K W v (.lst ds)) : ∃ a vs, v = .ref a ∧ SqL K W.h a vs ∧ RepL K W vs ds := by
  rcases h with h | ⟨ds', e, l, vs, rfl, h1, h2, _, _⟩
  · cases h with
    | lst hq ha => exact ⟨_, _, rfl, hs.seq hq, ha⟩
  · cases e
    exact ⟨l, vs, rfl, SqL.of h1, h2⟩
theorem RepB.tup (hs : Same W.f W.h) {K : PySem.W.Frag} {v : V} {ds : List Dt} (h : RepB K W v (.tup ds)) : ∃ a vs, v = .ref a ∧ SqD K W.f a vs ∧ SqD K W.h a vs ∧ RepL K W vs ds := by
  rcases h with h | ⟨ds', e, _⟩
  · cases h with
    | tup hq ha => exact ⟨_, _, rfl, hq, hq.same hs, ha⟩
  · cases e
theorem RepB.non {K : PySem.W.Frag} {v : V} (h : RepB K W v .non) : v = .non := by
  rcases h with h | ⟨_, e, _⟩
  · cases h; rfl
  · cases e
theorem RepB.bl {K : PySem.W.Frag} {v : V} {b : Bool} (h : RepB K W v (.bl b)) : v = .bl b := by
  rcases h with h | ⟨_, e, _⟩
  · cases h; rfl
  · cases e
theorem RepB.int {K : PySem.W.Frag} {v : V} {i : Int} (h : RepB K W v (.int i)) : v = .int i := by
  rcases h with h | ⟨_, e, _⟩
  · cases h; rfl
  · cases e
theorem RepB.str {K : PySem.W.Frag} {v : V} {x : Str} (h : RepB K W v (.str x)) : v = .str x ∧ x.length ≤ sizeLine := by
  rcases h with h | ⟨_, e, _⟩
  · cases h with
    | str _ hl => exact ⟨rfl, hl⟩
  · cases e
/-- a new tuple, its object known -/
theorem Inv.tnew {xs : List V} {its : List Value} {H : Hp} (I : Inv X pins σ H s) (r : Vals xs its) (hz : xs.length ≤ sizeLine) :
    Inv X pins σ (upd H s.heap.objs.size (.frz { cls := .type "tuple", data := .seq its.toArray } (.tup xs))) { s with heap := s.heap.push { cls := .type "tuple", data := .seq its.toArray } } := by
  refine I.laid (t' := s.toks) (fun b o e => Heap.get?_push_of_some _ e) (Nat.le_refl _) ?_
  show (Heap.get? _ _ = some _) ∧ ObjOk _ _ _ _ _ (.tup xs)
  exact ⟨Heap.get?_push_size _ rfl, hz, its, r, IsTup.new _ _⟩
end

/-! ### rules by data -/
/-- the wish of a datum, by a mode -/
def wish (G : Sur) (m : Md) (W : Wl) (S : Store) (d : Dt) (Q : VK) : Prop := ∀ z W', Wd G W' S → Ext W W' → Rz G.K m W W' z d → Q z W'.h
abbrev sur (X : Cx) : Sur := ⟨X.prog, X.w, X.K, X.mg, X.base⟩
/-- two data to one -/
def rD (G : Sur) (m : Md) (g : Dt → Dt → Option Dt) : R2 := fun x y H Q => ∃ W S a b, W.h = H ∧ Wd G W S ∧ RepB G.K W x a ∧ RepB G.K W y b ∧ opt (g a b) fun d => wish G m W S d Q
def rC (G : Sur) (g : Dt → Option Dt) (m : Md) : List V → Hp → VK → Prop := fun xs H Q => ∃ W S x a, xs = [x] ∧ W.h = H ∧ Wd G W S ∧ RepB G.K W x a ∧ opt (g a) fun d => wish G m W S d Q
theorem wish.now {G : Sur} {W : Wl} {S : Store} {d : Dt} {Q : VK} {z : V} {m : Md} (hm : m = .sh ∨ m = .bo) (w : Wd G W S) (h : wish G m W S d Q) (r : Rep G.K W z d) : Q z W.h := by
  rcases hm with rfl | rfl
  · exact h z W w (Ext.refl W) r
  · exact h z W w (Ext.refl W) (.inl r)
/-- a flat datum, in any mode -/
theorem wish.flat {G : Sur} {W : Wl} {S : Store} {d : Dt} {Q : VK} {z : V} {m : Md} (w : Wd G W S) (h : wish G m W S d Q) (r : Rep G.K W z d) (n : ∀ ds, d ≠ .lst ds) : Q z W.h := by
  cases m with
  | sh => exact h z W w (Ext.refl W) r
  | bo => exact h z W w (Ext.refl W) (.inl r)
  | ow => exact h z W w (Ext.refl W) ⟨fun ds e => absurd e (n ds), fun _ => r⟩
/-- a new list -/
theorem wish.new {G : Sur} {W : Wl} {S : Store} {ds : List Dt} {vs : List V} {Q : VK} {p : Addr} {m : Md} (w : Wd G W S) (hp : W.h p = none) (h : wish G m W S (.lst ds) Q) (r : RepL G.K W vs ds) : Q (.ref p) (upd W.h p (.lst vs)) := by
  have hf := w.none_f hp
  have na := w.not_ad hp
  cases m with
  | ow =>
    exact h (.ref p) (W.own p (.lst vs)) (w.own hp) (w.ext_own hp) ⟨fun ds' e => by
      cases e
      exact ⟨p, vs, rfl, upd_same, r.mono (w.ext_own hp), hf, na, hp⟩, fun n => absurd rfl (n ds)⟩
  | sh => exact h (.ref p) (W.put p (.lst vs)) (w.put hp) (w.ext_put hp) (.lst (SqL.of upd_same) (r.mono (w.ext_put hp)))
  | bo => exact h (.ref p) (W.put p (.lst vs)) (w.put hp) (w.ext_put hp) (.inl (.lst (SqL.of upd_same) (r.mono (w.ext_put hp))))
/-- a new tuple -/
theorem wish.newT {G : Sur} {W : Wl} {S : Store} {ds : List Dt} {vs : List V} {ob : Obj} {Q : VK} {p : Addr} {m : Md} (w : Wd G W S) (hp : W.h p = none) (hd : ob.dict = none) (h : wish G m W S (.tup ds) Q) (r : RepL G.K W vs ds) :
    Q (.ref p) (upd W.h p (.frz ob (.tup vs))) := by
  have r' : Rep G.K (W.put p (.frz ob (.tup vs))) (.ref p) (.tup ds) := .tup (.inl ⟨ob, upd_same, hd⟩) (r.mono (w.ext_put hp))
  cases m with
  | ow => exact h (.ref p) (W.put p (.frz ob (.tup vs))) (w.put hp) (w.ext_put hp) ⟨fun ds' e => (nomatch e), fun _ => r'⟩
  | sh => exact h (.ref p) (W.put p (.frz ob (.tup vs))) (w.put hp) (w.ext_put hp) r'
  | bo => exact h (.ref p) (W.put p (.frz ob (.tup vs))) (w.put hp) (w.ext_put hp) (.inl r')

section
variable {X : Cx}
theorem int_rep {K : PySem.W.Frag} {W : Wl} (i : Int) : Rep K W (.int i) (.int i) := .int i
/-- list + list, whatever lists they are -/
theorem op_catL : OpR X (binaryOp .Add) (fun x y H Q => ∃ l b xs zs, x = .ref l ∧ y = .ref b ∧ SqL X.K H l xs ∧ SqL X.K H b zs ∧ xs.length + zs.length ≤ sizeLine ∧ ∀ p, H p = none → Q (.ref p) (upd H p (.lst (xs ++ zs)))) := by
  intro pins s σ H x y v u Q I rx ry h
  obtain ⟨l, b, xs, zs, rfl, rfl, hl, hb, hz, q⟩ := h
  cases rx
  cases ry
  obtain ⟨its, r, ⟨⟨c1, d1, t1, s1⟩, n, e, hc, hd, hdt⟩, _⟩ := I.list hl
  obtain ⟨its2, r2, ⟨⟨c2, d2, t2, s2⟩, n2, e2, hc2, hd2, hdt2⟩, _⟩ := I.list hb
  simp only at hc hd hdt hc2 hd2 hdt2
  subst hc hd hdt hc2 hd2 hdt2
  have k1 := r.length
  have k2 := r2.length
  refine concat_meets ⟨_, e, rfl⟩ ⟨_, e2, rfl⟩ noFill_list_add seq_list_add PySem.F.slot_list_add PySem.F.entry_list_add (PySem.F.args_list_add_2 _ _) (list_addW l b its.toArray its2.toArray n n2 none none s1 s2 (by rw [List.size_toArray, List.size_toArray]; omega)) ⟨e, e2, ?_⟩
  have ea : its.toArray ++ its2.toArray = (its ++ its2).toArray := by simp
  rw [ea]
  exact ⟨.ref _, _, I.lnew (t' := s.toks) (r.append r2) (by rw [List.length_append]; omega), rfl, q _ I.fresh⟩
/-- tuple + tuple, the new one's object known -/
theorem op_catT2 : OpR X (binaryOp .Add) (fun x y H Q => ∃ l b xs zs, x = .ref l ∧ y = .ref b ∧ SqT X.K H l xs ∧ SqT X.K H b zs ∧ xs.length + zs.length ≤ sizeLine ∧ (xs = [] → Q (.ref b) H) ∧ (xs ≠ [] → zs = [] → Q (.ref l) H) ∧
    (xs ≠ [] → zs ≠ [] → ∀ p ob, H p = none → ob.dict = none → Q (.ref p) (upd H p (.frz ob (.tup (xs ++ zs)))))) := by
  intro pins s σ H x y v u Q I rx ry h
  obtain ⟨l, b, xs, zs, rfl, rfl, hl, hb, hz, q0, q1, q2⟩ := h
  cases rx
  cases ry
  obtain ⟨its, r, p, _⟩ := I.tuple hl
  obtain ⟨its2, r2, p2, _⟩ := I.tuple hb
  by_cases hx : xs = []
  · subst hx
    cases r
    exact cat_tup0 p p2 ⟨.ref b, H, I, rfl, q0 rfl⟩
  · refine HT.cat_tup p p2 (fun z => hx (r.nil_iff.mp z)) (fun z => ⟨.ref l, H, I, rfl, q1 hx (r2.nil_iff.mp z)⟩) (fun z => ?_) (by rw [← r.length, ← r2.length]; exact hz)
    have hn : zs ≠ [] := fun e => z (r2.nil_iff.mpr e)
    exact ⟨.ref s.heap.objs.size, _, Inv.tnew I (r.append r2) (by rw [List.length_append]; exact hz), rfl, q2 hx hn _ _ (I.hok.fresh (Nat.le_refl _)) rfl⟩
theorem RepL.rep {K : PySem.W.Frag} {W : Wl} {vs : List V} {ds : List Dt} (h : RepL K W vs ds) : ∀ k : Nat, RepL K W (List.replicate k vs).flatten (List.replicate k ds).flatten
  | 0 => .nil
  | k + 1 => by
    rw [List.replicate_succ, List.replicate_succ, List.flatten_cons, List.flatten_cons]
    exact h.append (RepL.rep h k)
/-- tuple * int, the new one's object known -/
theorem op_repT2 : OpR X (binaryOp .Mult) (fun x y H Q => ∃ l k xs, x = .ref l ∧ y = .int k ∧ SqT X.K H l xs ∧ xs ≠ [] ∧ 2 ≤ k ∧ k ≤ 1000 ∧ xs.length ≤ 1000 ∧ ∀ p ob, H p = none → ob.dict = none → Q (.ref p) (upd H p (.frz ob (.tup (List.replicate k.toNat xs).flatten)))) := by
  intro pins s σ H x y v u Q I rx ry h
  obtain ⟨l, k, xs, rfl, rfl, hT, hne, h1, h2, hz, q⟩ := h
  cases rx
  obtain ⟨t, rfl⟩ := ry
  obtain ⟨its, r, ⟨⟨cls, dd, data, sl⟩, ho, hc, n, hd⟩, hs⟩ := I.tuple hT
  simp only at hc hd
  subst hc hd
  have hle : its.length = xs.length := r.length.symm
  have hi : its.toArray.isEmpty = false := by
    cases its with
    | nil => exact absurd (List.eq_nil_of_length_eq_zero hle.symm) hne
    | cons a b => rfl
  have hm : ((its.toArray.size : Nat) : Int) * k ≤ 1000000 := by
    rw [List.size_toArray, hle]
    have a1 : ((xs.length : Nat) : Int) * k ≤ 1000 * k := Int.mul_le_mul_of_nonneg_right (by omega) (by omega)
    omega
  have flen : ∀ {α : Type} (ys : List α), ys.length = xs.length → (List.replicate k.toNat ys).flatten.length ≤ sizeLine := fun ys e => by
    have a0 : (List.replicate k.toNat ys).flatten.length = k.toNat * ys.length := by simp [List.length_flatten, List.sum_replicate_nat]
    rw [a0, e, sizeLine_eq]
    have a1 : k.toNat * xs.length ≤ 1000 * 1000 := Nat.mul_le_mul (by omega) hz
    omega
  have c0 : (decide (k < -(2 ^ 63)) || decide (k ≥ 2 ^ 63)) = false := by rw [decide_eq_false (by omega), decide_eq_false (by omega)] <;> rfl
  have c1 : (its.toArray.isEmpty || k == 1) = false := by rw [hi, Bool.false_or]; exact beq_eq_false_iff_ne.mpr (by omega)
  have c2 : (decide (k ≤ 0) || its.toArray.isEmpty) = false := by rw [hi, Bool.or_false]; exact decide_eq_false (by omega)
  have c4 : Builtin.Tuple.tupleTooMany (((its.toArray.size : Nat) : Int) * k) = false := by
    unfold Builtin.Tuple.tupleTooMany
    rw [sizeLine_eq]
    exact decide_eq_false (by omega)
  refine wpAny_binaryOp_repeat_ref (T := "tuple") (U := "int") (by decide) ⟨_, ho, rfl⟩ (fun s' => typeIs_int s' k t) noFill_tuple_mul F.fills_int_mul F.slot_int_rmul repeat_tuple F.slot_int_index.lookup
    (call_meets F.slot_int_rmul (typeIs_int s k t) F.entry_int_rmul (F.args_int_rmul_2 _ _) (int_rmul_tuple k t l its.toArray n dd sl)
      ⟨ho, rfl, ⟨_, ho, rfl⟩, call_meets F.slot_tuple_mul ⟨_, ho, rfl⟩ F.entry_tuple_mul (F.args_tuple_mul_2 _ _) (tuple_mulW l its.toArray n dd sl k t c0 c1 c2 (by omega) c4 (by rw [size_rep, List.size_toArray]; exact flen its hle)) ⟨ho, ?_⟩⟩)
  rw [size_rep]
  exact ⟨.ref s.heap.objs.size, _, Inv.tnew I (r.rep k.toNat) (flen xs rfl), rfl, q _ _ (I.hok.fresh (Nat.le_refl _)) rfl⟩
theorem tuple_mul1W (l : Addr) (items : Array Value) (n : Nat) (dd : Option Addr) (sl : Array (Option Value)) (x : Int) (u : Tok) (c0 : (decide (x < -(2 ^ 63)) || decide (x ≥ 2 ^ 63)) = false) (c1 : (items.isEmpty || x == 1) = true) :
    Meets (Builtin.«tuple.__mul__» ⟨[.ref l, .int x u], []⟩) (fun _ R s => s.heap.get? l = some { cls := .type "tuple", dict := dd, data := .seq items n, slots := sl } ∧ R (.ok (.ret (Value.ref l))) s) :=
  .of_wp fun prog w A R s h => by
    obtain ⟨hp, g, d, tk, os⟩ := s
    obtain ⟨hl, h⟩ := h
    have f1 := AutoSeq1.idx_int
    wp_walk using wpAny_loadPart' hl
    repeat (first
      | (refine wpAny_ite_false (decide_eq_false (by rw [c0]; exact Bool.false_ne_true)) ?_; wp_walk using wpAny_loadPart' hl)
      | (refine wpAny_ite_true (decide_eq_true c1) ?_; wp_walk using wpAny_loadPart' hl))
    exact ⟨_, rfl, h⟩
/-- tuple * int, the tuple itself -/
theorem op_repT1 : OpR X (binaryOp .Mult) (fun x y H Q => ∃ l k xs, x = .ref l ∧ y = .int k ∧ SqT X.K H l xs ∧ (xs.isEmpty || k == 1) = true ∧ -(2 ^ 63) ≤ k ∧ k < 2 ^ 63 ∧ Q (.ref l) H) := by
  intro pins s σ H x y v u Q I rx ry h
  obtain ⟨l, k, xs, rfl, rfl, hT, hne, h1, h2, q⟩ := h
  cases rx
  obtain ⟨t, rfl⟩ := ry
  obtain ⟨its, r, ⟨⟨cls, dd, data, sl⟩, ho, hc, n, hd⟩, hs⟩ := I.tuple hT
  simp only at hc hd
  subst hc hd
  have hi : (its.toArray.isEmpty || k == 1) = true := by
    cases r with
    | nil => rfl
    | cons a b => exact hne
  have c0 : (decide (k < -(2 ^ 63)) || decide (k ≥ 2 ^ 63)) = false := by rw [decide_eq_false (by omega), decide_eq_false (by omega)] <;> rfl
  refine wpAny_binaryOp_repeat_ref (T := "tuple") (U := "int") (by decide) ⟨_, ho, rfl⟩ (fun s' => typeIs_int s' k t) noFill_tuple_mul F.fills_int_mul F.slot_int_rmul repeat_tuple F.slot_int_index.lookup
    (call_meets F.slot_int_rmul (typeIs_int s k t) F.entry_int_rmul (F.args_int_rmul_2 _ _) (int_rmul_tuple k t l its.toArray n dd sl)
      ⟨ho, rfl, ⟨_, ho, rfl⟩, call_meets F.slot_tuple_mul ⟨_, ho, rfl⟩ F.entry_tuple_mul (F.args_tuple_mul_2 _ _) (tuple_mul1W l its.toArray n dd sl k t c0 hi) ⟨ho, ?_⟩⟩)
  exact ⟨.ref l, H, I, rfl, q⟩
theorem tuple_mul0W (l : Addr) (items : Array Value) (n : Nat) (dd : Option Addr) (sl : Array (Option Value)) (x : Int) (u : Tok) (c0 : (decide (x < -(2 ^ 63)) || decide (x ≥ 2 ^ 63)) = false) (c1 : (items.isEmpty || x == 1) = false) (c2 : (decide (x ≤ 0) || items.isEmpty) = true) :
    Meets (Builtin.«tuple.__mul__» ⟨[.ref l, .int x u], []⟩) (fun _ R s => s.heap.get? l = some { cls := .type "tuple", dict := dd, data := .seq items n, slots := sl } ∧
      R (.ok (.ret (Value.ref s.heap.objs.size))) { s with heap := s.heap.push { cls := Value.type "tuple", data := Data.seq #[] }, toks := s.toks }) :=
  .of_wp fun prog w A R s h => by
    obtain ⟨hp, g, d, tk, os⟩ := s
    obtain ⟨hl, h⟩ := h
    have f1 := AutoSeq1.idx_int
    wp_walk using wpAny_loadPart' hl
    repeat (first
      | (refine wpAny_ite_false (decide_eq_false (by rw [c0]; exact Bool.false_ne_true)) ?_; wp_walk using wpAny_loadPart' hl)
      | (refine wpAny_ite_false (decide_eq_false (by rw [c1]; exact Bool.false_ne_true)) ?_; wp_walk using wpAny_loadPart' hl)
      | (refine wpAny_ite_true (decide_eq_true c2) ?_; wp_walk using wpAny_loadPart' hl))
    exact ⟨_, rfl, h⟩
/-- tuple * int, not above 0 -/
theorem op_repT0 : OpR X (binaryOp .Mult) (fun x y H Q => ∃ l k xs, x = .ref l ∧ y = .int k ∧ SqT X.K H l xs ∧ xs.isEmpty = false ∧ -(2 ^ 63) ≤ k ∧ k ≤ 0 ∧ ∀ p ob, H p = none → ob.dict = none → Q (.ref p) (upd H p (.frz ob (.tup [])))) := by
  intro pins s σ H x y v u Q I rx ry h
  obtain ⟨l, k, xs, rfl, rfl, hT, hne, h1, h2, q⟩ := h
  cases rx
  obtain ⟨t, rfl⟩ := ry
  obtain ⟨its, r, ⟨⟨cls, dd, data, sl⟩, ho, hc, n, hd⟩, hs⟩ := I.tuple hT
  simp only at hc hd
  subst hc hd
  have hi : its.toArray.isEmpty = false := by
    cases r with
    | nil => cases hne
    | cons a b => rfl
  have c0 : (decide (k < -(2 ^ 63)) || decide (k ≥ 2 ^ 63)) = false := by rw [decide_eq_false (by omega), decide_eq_false (by omega)] <;> rfl
  have c1 : (its.toArray.isEmpty || k == 1) = false := by rw [hi, Bool.false_or]; exact beq_eq_false_iff_ne.mpr (by omega)
  have c2 : (decide (k ≤ 0) || its.toArray.isEmpty) = true := by rw [decide_eq_true h2, Bool.true_or]
  refine wpAny_binaryOp_repeat_ref (T := "tuple") (U := "int") (by decide) ⟨_, ho, rfl⟩ (fun s' => typeIs_int s' k t) noFill_tuple_mul F.fills_int_mul F.slot_int_rmul repeat_tuple F.slot_int_index.lookup
    (call_meets F.slot_int_rmul (typeIs_int s k t) F.entry_int_rmul (F.args_int_rmul_2 _ _) (int_rmul_tuple k t l its.toArray n dd sl)
      ⟨ho, rfl, ⟨_, ho, rfl⟩, call_meets F.slot_tuple_mul ⟨_, ho, rfl⟩ F.entry_tuple_mul (F.args_tuple_mul_2 _ _) (tuple_mul0W l its.toArray n dd sl k t c0 c1 c2) ⟨ho, ?_⟩⟩)
  exact ⟨.ref s.heap.objs.size, _, Inv.tnew I (xs := []) (its := []) .nil (by decide), rfl, q _ _ (I.hok.fresh (Nat.le_refl _)) rfl⟩
theorem int_rmul_listW (a : Int) (t : Tok) (l : Addr) (items : Array Value) (n : Nat) (dd : Option Addr) (sl : Array (Option Value)) :
    Meets (Builtin.«int.__rmul__» ⟨[.int a t, .ref l], []⟩) (fun _ R s => s.heap.get? l = some { cls := .type "list", dict := dd, data := .seq items n, slots := sl } ∧ R (.ok (.ret Value.notImplemented)) s) :=
  .of_wp fun prog w A R s h => by obtain ⟨hp, g, d, tk, os⟩ := s; obtain ⟨hl, h⟩ := h; wp_walk using wpAny_loadPart' hl; exact ⟨_, rfl, h⟩
theorem list_mulW (l : Addr) (items : Array Value) (n : Nat) (dd : Option Addr) (sl : Array (Option Value)) (x : Int) (u : Tok) (hc0 : ¬(!Builtin.List.listFitsIndex x) = true) (hc1 : ¬items.size * x.toNat > (2 ^ 63 - 1) / 8) (hc2 : ¬Builtin.List.listTooLong (items.size * x.toNat) = true) :
    Meets (Builtin.«list.__mul__» ⟨[.ref l, .int x u], []⟩) (fun _ R s => s.heap.get? l = some { cls := .type "list", dict := dd, data := .seq items n, slots := sl } ∧ R (.ok (.ret (Value.ref s.heap.objs.size))) { s with heap := s.heap.push { cls := Value.type "list", data := Data.seq (List.foldl (fun x1 x2 => x1 ++ x2) #[] (List.replicate (if items.isEmpty = true then 0 else x.toNat) items)) }, toks := s.toks }) :=
  .of_wp fun prog w A R s h => by
    obtain ⟨hp, g, d, tk, os⟩ := s; obtain ⟨hl, h⟩ := h
    have hsz := AutoListH.joined_fits hc2
    wp_walk using wpAny_loadPart' hl
    repeat (first
      | (refine wpAny_ite_false (decide_eq_false hc0) ?_; wp_walk using wpAny_loadPart' hl)
      | (refine wpAny_ite_false (decide_eq_false hc1) ?_; wp_walk using wpAny_loadPart' hl)
      | (refine wpAny_ite_false (decide_eq_false hc2) ?_; wp_walk using wpAny_loadPart' hl)
      | (refine wpAny_ite_false (decide_eq_false (Nat.not_lt.mpr hsz)) ?_; wp_walk using wpAny_loadPart' hl))
    exact ⟨_, rfl, h⟩
/-- list * int, whatever list it is -/
theorem op_repL : OpR X (binaryOp .Mult) (fun x y H Q => ∃ l k xs, x = .ref l ∧ y = .int k ∧ SqL X.K H l xs ∧ -(2 ^ 63) ≤ k ∧ k < 2 ^ 63 ∧ xs.length * k.toNat ≤ sizeLine ∧ ∀ p, H p = none → Q (.ref p) (upd H p (.lst (List.replicate k.toNat xs).flatten))) := by
  intro pins s σ H x y v u Q I rx ry h
  obtain ⟨l, k, xs, rfl, rfl, hH, h1, h2, hz, q⟩ := h
  cases rx
  obtain ⟨t, rfl⟩ := ry
  obtain ⟨its, r, ⟨⟨c1, d1, t1, s1⟩, n, e, hc, hd, hdt⟩, _⟩ := I.list hH
  simp only at hc hd hdt
  subst hc hd hdt
  have hl := r.length
  have hlen : its.toArray.size * k.toNat ≤ sizeLine := by rw [List.size_toArray, ← hl]; exact hz
  have hcap : ¬ its.toArray.size * k.toNat > (2 ^ 63 - 1) / 8 := by
    have : (sizeLine : Nat) ≤ (2 ^ 63 - 1) / 8 := by decide
    omega
  have hfit : ¬ (!Builtin.List.listFitsIndex k) = true := by
    rw [fitsIndex_both h1 h2]
    exact Bool.false_ne_true
  have hlong : ¬ Builtin.List.listTooLong (its.toArray.size * k.toNat) = true := by
    rw [notLongL hlen]
    exact Bool.false_ne_true
  have hnew : List.foldl (fun x1 x2 => x1 ++ x2) #[] (List.replicate (if its.toArray.isEmpty = true then 0 else k.toNat) its.toArray) = (List.replicate k.toNat its).flatten.toArray := by
    rw [size_rep]
    cases its with
    | nil => simp
    | cons a r' => rw [if_neg (by simp)]
  refine wpAny_binaryOp_repeat_ref (T := "list") (U := "int") (by decide) ⟨_, e, rfl⟩ (fun s' => typeIs_int s' k t) noFill_list_mul F.fills_int_mul F.slot_int_rmul repeat_list F.slot_int_index.lookup
    (call_meets F.slot_int_rmul (typeIs_int s k t) F.entry_int_rmul (F.args_int_rmul_2 _ _) (int_rmul_listW k t l its.toArray n none s1)
      ⟨e, rfl, ⟨_, e, rfl⟩, call_meets F.slot_list_mul ⟨_, e, rfl⟩ F.entry_list_mul (F.args_list_mul_2 _ _) (list_mulW l its.toArray n none s1 k t hfit hcap hlong) ⟨e, ?_⟩⟩)
  rw [hnew]
  exact ⟨.ref _, _, I.lnew (t' := s.toks) (r.rep k.toNat) (by
    have a0 : (List.replicate k.toNat xs).flatten.length = k.toNat * xs.length := by simp [List.length_flatten, List.sum_replicate_nat]
    rw [a0, Nat.mul_comm]; exact hz), rfl, q _ I.fresh⟩
def bopOf : Bop → Operator
  | .add => .Add
  | .sub => .Sub
  | .mul => .Mult
  | .mod => .Mod
  | .fdiv => .FloorDiv
  | .pow => .Pow
theorem op_bin (o : Bop) (m : Md) : OpR X (binaryOp (bopOf o)) (rD (sur X) m (binD o)) := by
  intro pins s σ H x y v u Q I rx ry h
  obtain ⟨W, S, a, b, rfl, w, ra, rb, q⟩ := h
  obtain ⟨d, e, q⟩ := opt_eq q
  have int : ∀ (i : Int), d = .int i → Q (.int i) W.h := fun i hd => by
    subst hd
    exact q.flat w (.int i) fun ds z => nomatch z
  unfold binD at e
  split at e
  · rename_i i j
    cases ra.int
    cases rb.int
    exact op_add pins s σ _ _ _ v u Q I rx ry ⟨i, j, rfl, rfl, int _ (Option.some.inj e).symm⟩
  · rename_i x' y'
    obtain ⟨rfl, h1⟩ := ra.str
    obtain ⟨rfl, h2⟩ := rb.str
    split at e
    · rename_i hl
      cases e
      exact op_add_str pins s σ _ _ _ v u Q I rx ry ⟨_, _, rfl, rfl, hl, q.flat w (.str _ (by rw [show (x' ++ y').length = x'.length + y'.length from Str.length_append _ _]; exact hl)) fun ds z => nomatch z⟩
    · cases e
  · rename_i xs ys
    obtain ⟨p1, vs, rfl, s1, r1⟩ := ra.seq w.sub
    obtain ⟨p2, us, rfl, s2, r2⟩ := rb.seq w.sub
    split at e
    · rename_i hl
      cases e
      exact op_catL pins s σ _ _ _ v u Q I rx ry ⟨_, _, _, _, rfl, rfl, s1, s2, by rw [r1.length, r2.length]; exact hl, fun p hp => wish.new w hp q (r1.append r2)⟩
    · cases e
  · rename_i xs ys
    obtain ⟨p1, vs, rfl, f1, s1, r1⟩ := ra.tup w.sub
    obtain ⟨p2, us, rfl, f2, s2, r2⟩ := rb.tup w.sub
    split at e
    · rename_i hl
      cases e
      have n1 := r1.length
      have n2 := r2.length
      refine op_catT2 pins s σ _ _ _ v u Q I rx ry ⟨_, _, _, _, rfl, rfl, s1.sq, s2.sq, by rw [n1, n2]; exact hl, fun hx => ?_, fun hx hy => ?_, fun hx hy p ob hp hd => wish.newT w hp hd q (r1.append r2)⟩
      · subst hx
        cases r1
        exact q.flat w (.tup f2 r2) fun ds z => nomatch z
      · subst hy
        cases r2
        rw [List.append_nil] at q
        exact q.flat w (.tup f1 r1) fun ds z => nomatch z
    · cases e
  · rename_i i j
    cases ra.int
    cases rb.int
    exact op_sub pins s σ _ _ _ v u Q I rx ry ⟨i, j, rfl, rfl, int _ (Option.some.inj e).symm⟩
  · rename_i i j
    cases ra.int
    cases rb.int
    split at e
    · rename_i hc
      exact op_mul pins s σ _ _ _ v u Q I rx ry ⟨i, j, rfl, rfl, hc, int _ (Option.some.inj e).symm⟩
    · cases e
  · rename_i xs k
    obtain ⟨p1, vs, rfl, f1, s1, r1⟩ := ra.tup w.sub
    cases rb.int
    split at e
    · rename_i hc
      cases e
      have hne : vs ≠ [] := fun z => by
        rw [z] at r1
        cases r1
        exact absurd hc.1 (by simp)
      exact op_repT2 pins s σ _ _ _ v u Q I rx ry ⟨_, _, _, rfl, rfl, s1.sq, hne, hc.2.1, hc.2.2.1, by rw [r1.length]; exact hc.2.2.2, fun p ob hp hd => wish.newT w hp hd q (r1.rep k.toNat)⟩
    · have emp : vs.isEmpty = xs.isEmpty := by
        cases r1 <;> rfl
      split at e
      · rename_i hc
        have e' := Option.some.inj e
        subst e'
        obtain ⟨h1, h2, h3⟩ := hc
        exact op_repT1 pins s σ _ _ _ v u Q I rx ry ⟨_, _, _, rfl, rfl, s1.sq, by rw [emp]; exact h1, h2, h3, wish.flat w q (.tup f1 r1) (fun ds z => nomatch z)⟩
      · rename_i hnot
        split at e
        · rename_i hc
          have e' := Option.some.inj e
          subst e'
          have hne : vs.isEmpty = false := by
            rw [emp]
            cases hx : xs.isEmpty with
            | false => rfl
            | true => exact absurd ⟨by rw [hx]; rfl, hc.2, by omega⟩ hnot
          exact op_repT0 pins s σ _ _ _ v u Q I rx ry ⟨_, _, _, rfl, rfl, s1.sq, hne, hc.2, hc.1, fun p ob hp hd => wish.newT w hp hd q .nil⟩
        · cases e
  · rename_i xs k
    obtain ⟨p1, vs, rfl, s1, r1⟩ := ra.seq w.sub
    cases rb.int
    split at e
    · rename_i hc
      cases e
      exact op_repL pins s σ _ _ _ v u Q I rx ry ⟨_, _, _, rfl, rfl, s1, hc.1, hc.2.1, by rw [r1.length]; exact hc.2.2, fun p hp => wish.new w hp q (r1.rep k.toNat)⟩
    · cases e
  · rename_i i j
    cases ra.int
    cases rb.int
    split at e
    · rename_i hc
      exact op_modN pins s σ _ _ _ v u Q I rx ry ⟨i, j, rfl, rfl, hc, int _ (Option.some.inj e).symm⟩
    · cases e
  · rename_i i j
    cases ra.int
    cases rb.int
    split at e
    · rename_i hc
      exact op_fdivN pins s σ _ _ _ v u Q I rx ry ⟨i, j, rfl, rfl, hc, int _ (Option.some.inj e).symm⟩
    · cases e
  · rename_i i j
    cases ra.int
    cases rb.int
    split at e
    · rename_i hc
      exact op_pow pins s σ _ _ _ v u Q I rx ry ⟨i, j, rfl, rfl, hc, int _ (Option.some.inj e).symm⟩
    · cases e
  · cases e

/-! ### comparisons -/
def copOf : Cop → CmpOp
  | .eq => .Eq
  | .ne => .NotEq
  | .lt => .Lt
  | .le => .LtE
  | .gt => .Gt
  | .ge => .GtE
  | .isin => .In
  | .notin => .NotIn
  | .isN => .Is
  | .notN => .IsNot
/-- two data to a truth value -/
def rK (G : Sur) (g : Dt → Dt → Option Bool) : R2 := fun x y H Q => ∃ W S a b, W.h = H ∧ Wd G W S ∧ RepB G.K W x a ∧ RepB G.K W y b ∧ opt (g a b) fun k => Q (.bl k) W.h
theorem any_map (ds : List Dt) (p : PyData → Bool) : (toPys ds).any p = ds.any fun d => p (toPy d) := by
  rw [toPys_eq, List.any_map]
  rfl
theorem op_cmp (hu : X.A.units + 64 < cLine) (o : Cop) : OpR X (compareOp (copOf o)) (rK (sur X) (cmpD o)) := by
  intro pins s σ H x y v u Q I rx ry h
  obtain ⟨W, S, a, b, rfl, w, ra, rb, q0⟩ := h
  obtain ⟨k, e, q⟩ := opt_eq q0
  clear q0
  have reads : ∀ {d : Dt} {z : V} {t : Value}, RepB X.K W z d → RelV z t → plainD d = true → ∃ as, Reads s.heap t (toPy d) as := fun {d z t} h1 h2 h3 => h1.reads I w.sub h3 h2
  have room : ∀ {d e : Dt}, plainD d = true → X.A.units + min (toPy d).depth (toPy e).depth < cLine := fun {d e} h => by
    have h2 : (toPy d).depth ≤ 12 := (okD_plain deep d h).2
    have h3 : min (toPy d).depth (toPy e).depth ≤ (toPy d).depth := Nat.min_le_left _ _
    omega
  have room2 : ∀ {d : Dt} {n : Nat}, plainD d = true → X.A.units + 1 + min n (toPy d).depth < cLine := fun {d n} h => by
    have h2 : (toPy d).depth ≤ 12 := (okD_plain deep d h).2
    have h3 : min n (toPy d).depth ≤ (toPy d).depth := Nat.min_le_right _ _
    omega
  have fin : ∀ {k' : Bool}, k = k' → EP X pins σ Q (.bool k') s := fun {k'} hk => ⟨.bl k', W.h, I, rfl, by rw [← hk]; exact q⟩
  unfold cmpD at e
  split at e
  · split at e
    · rename_i hp
      rw [Bool.and_eq_true] at hp
      obtain ⟨as, r1⟩ := reads ra rx hp.1
      obtain ⟨bs, r2⟩ := reads rb ry hp.2
      exact SeqAt.eq_plain r1 r2 (okD_plain _ _ hp.1).1 (okD_plain _ _ hp.2).1 (room hp.1) (fin (Option.some.inj e).symm)
    · cases e
  · split at e
    · rename_i hp
      rw [Bool.and_eq_true] at hp
      obtain ⟨as, r1⟩ := reads ra rx hp.1
      obtain ⟨bs, r2⟩ := reads rb ry hp.2
      exact SeqAt.ne_plain r1 r2 (okD_plain _ _ hp.1).1 (okD_plain _ _ hp.2).1 (room hp.1) (fin (Option.some.inj e).symm)
    · cases e
  · cases ra.int; cases rb.int; cases e
    exact op_lt pins s σ _ _ _ v u Q I rx ry ⟨_, _, rfl, rfl, q⟩
  · cases ra.int; cases rb.int; cases e
    exact op_le pins s σ _ _ _ v u Q I rx ry ⟨_, _, rfl, rfl, q⟩
  · cases ra.int; cases rb.int; cases e
    exact op_gt pins s σ _ _ _ v u Q I rx ry ⟨_, _, rfl, rfl, q⟩
  · cases ra.int; cases rb.int; cases e
    exact op_ge pins s σ _ _ _ v u Q I rx ry ⟨_, _, rfl, rfl, q⟩
  · obtain ⟨rfl, _⟩ := ra.str
    obtain ⟨rfl, _⟩ := rb.str
    cases e
    exact op_lt_str pins s σ _ _ _ v u Q I rx ry ⟨_, _, rfl, rfl, q⟩
  · obtain ⟨rfl, _⟩ := ra.str
    obtain ⟨rfl, _⟩ := rb.str
    cases e
    exact op_le_str pins s σ _ _ _ v u Q I rx ry ⟨_, _, rfl, rfl, q⟩
  · obtain ⟨rfl, _⟩ := ra.str
    obtain ⟨rfl, _⟩ := rb.str
    cases e
    exact op_in_str pins s σ _ _ _ v u Q I rx ry ⟨_, _, rfl, rfl, q⟩
  · obtain ⟨rfl, _⟩ := ra.str
    obtain ⟨rfl, _⟩ := rb.str
    cases e
    exact op_notin_str pins s σ _ _ _ v u Q I rx ry ⟨_, _, rfl, rfl, q⟩
  · split at e
    · rename_i hp
      rw [Bool.and_eq_true] at hp
      obtain ⟨as, r1⟩ := reads ra rx hp.1
      obtain ⟨bs, r2⟩ := reads rb ry hp.2
      refine SeqAt.in_list_data (xs := toPys _) r2 r1 (okD_list 11 _ hp.2).1 (okD_plain _ _ hp.1).1 (room2 hp.1) (fin ?_)
      rw [any_map]; exact (Option.some.inj e).symm
    · cases e
  · split at e
    · rename_i hp
      rw [Bool.and_eq_true] at hp
      obtain ⟨as, r1⟩ := reads ra rx hp.1
      obtain ⟨bs, r2⟩ := reads rb ry hp.2
      refine SeqAt.in_tuple_data (xs := toPys _) r2 r1 (okD_list 11 _ hp.2).1 (okD_plain _ _ hp.1).1 (room2 hp.1) (fin ?_)
      rw [any_map]; exact (Option.some.inj e).symm
    · cases e
  · split at e
    · rename_i hp
      rw [Bool.and_eq_true] at hp
      obtain ⟨as, r1⟩ := reads ra rx hp.1
      obtain ⟨bs, r2⟩ := reads rb ry hp.2
      refine SeqAt.notIn_list_data (xs := toPys _) r2 r1 (okD_list 11 _ hp.2).1 (okD_plain _ _ hp.1).1 (room2 hp.1) (fin ?_)
      rw [any_map]; exact (Option.some.inj e).symm
    · cases e
  · split at e
    · rename_i hp
      rw [Bool.and_eq_true] at hp
      obtain ⟨as, r1⟩ := reads ra rx hp.1
      obtain ⟨bs, r2⟩ := reads rb ry hp.2
      refine SeqAt.notIn_tuple_data (xs := toPys _) r2 r1 (okD_list 11 _ hp.2).1 (okD_plain _ _ hp.1).1 (room2 hp.1) (fin ?_)
      rw [any_map]; exact (Option.some.inj e).symm
    · cases e
  · cases rb.non
    refine op_isN pins s σ _ _ _ v u Q I rx ry ⟨rfl, ?_⟩
    have z : k = decide (x = .non) := by
      cases a with
      | non => cases ra.non; exact (Option.some.inj e).symm
      | bl _ => cases ra.bl; exact (Option.some.inj e).symm
      | int _ => cases ra.int; exact (Option.some.inj e).symm
      | str _ => obtain ⟨rfl, _⟩ := ra.str; exact (Option.some.inj e).symm
      | tup _ => obtain ⟨_, _, rfl, _⟩ := ra.tup w.sub; exact (Option.some.inj e).symm
      | lst _ => obtain ⟨_, _, rfl, _⟩ := ra.seq w.sub; exact (Option.some.inj e).symm
      | hdl _ =>
        rcases ra with ra | ⟨_, z, _⟩
        · cases ra; exact (Option.some.inj e).symm
        · cases z
      | dct _ =>
        rcases ra with ra | ⟨_, z, _⟩
        · cases ra
        · cases z
    rw [← z]; exact q
  · cases rb.non
    refine op_notN pins s σ _ _ _ v u Q I rx ry ⟨rfl, ?_⟩
    have z : k = !decide (x = .non) := by
      cases a with
      | non => cases ra.non; exact (Option.some.inj e).symm
      | bl _ => cases ra.bl; exact (Option.some.inj e).symm
      | int _ => cases ra.int; exact (Option.some.inj e).symm
      | str _ => obtain ⟨rfl, _⟩ := ra.str; exact (Option.some.inj e).symm
      | tup _ => obtain ⟨_, _, rfl, _⟩ := ra.tup w.sub; exact (Option.some.inj e).symm
      | lst _ => obtain ⟨_, _, rfl, _⟩ := ra.seq w.sub; exact (Option.some.inj e).symm
      | hdl _ =>
        rcases ra with ra | ⟨_, z, _⟩
        · cases ra; exact (Option.some.inj e).symm
        · cases z
      | dct _ =>
        rcases ra with ra | ⟨_, z, _⟩
        · cases ra
        · cases z
    rw [← z]; exact q
  · cases e
end
end Vr

/-! Truth, places, slices, built-ins, methods, isinstance over data. -/
namespace Vr
open PySem PySem.Spec PyProof.Rows L2

section
variable {X : Cx} {pins : List (Addr × Obj)} {σ : L2.St} {s : Shared} {W : Wl}
theorem empty_rep {K : PySem.W.Frag} {W : Wl} : ∀ {ds : List Dt} {vs : List V}, RepL K W vs ds → (!ds.isEmpty) = !vs.isEmpty
  | _, _, .nil => rfl
  | _, _, .cons _ _ => rfl
theorem tru_rep {K : PySem.W.Frag} {z : V} {d : Dt} {k : Bool} (hs : Same W.f W.h) (r : RepB K W z d) (e : tru d = some k) : TruV K z W.h k := by
  cases d with
  | non => cases r.non; cases e; rfl
  | bl b => cases r.bl; cases e; rfl
  | int i => cases r.int; cases e; rfl
  | str x => obtain ⟨rfl, h⟩ := r.str; cases e; exact ⟨h, rfl⟩
  | tup ds =>
    obtain ⟨a, vs, rfl, _, h, rl⟩ := r.tup hs
    cases e
    exact .inr (.inl ⟨vs, h.sq, empty_rep rl⟩)
  | lst ds =>
    obtain ⟨a, vs, rfl, h, rl⟩ := r.seq hs
    cases e
    exact .inl ⟨vs, h, empty_rep rl⟩
  | hdl _ => cases e
  | dct _ => cases e
theorem atI_rep {K : PySem.W.Frag} {W : Wl} {ds : List Dt} {vs : List V} {i : Int} {d : Dt} (r : RepL K W vs ds) (e : atI ds i = some d) : ∃ v, atI vs i = some v ∧ Rep K W v d := by
  unfold atI at e ⊢
  rw [r.length]
  cases q : ixN ds.length i with
  | none => rw [q] at e; cases e
  | some j =>
    rw [q] at e
    exact r.get e
/-- x[i] -/
theorem ix_D (m : Md) (hm : m = .sh ∨ m = .bo) : IxR X (rD (sur X) m idxD) := by
  intro value slice pins s σ H x y v u Q I rx ry h hs
  obtain ⟨W, S, a, b, rfl, w, ra, rb, q0⟩ := h
  obtain ⟨d, e, q⟩ := opt_eq q0
  clear q0
  unfold idxD at e
  split at e
  · obtain ⟨p, vs, rfl, s1, r1⟩ := ra.seq w.sub
    cases rb.int
    obtain ⟨z, e1, e2⟩ := atI_rep r1 e
    exact ix_list value slice pins s σ _ _ _ v u Q I rx ry ⟨_, _, _, _, rfl, rfl, s1, e1, q.now hm w e2⟩ hs
  · obtain ⟨p, vs, rfl, _, s1, r1⟩ := ra.tup w.sub
    cases rb.int
    obtain ⟨z, e1, e2⟩ := atI_rep r1 e
    exact ix_tup value slice pins s σ _ _ _ v u Q I rx ry ⟨_, _, _, _, rfl, rfl, s1.sq, e1, q.now hm w e2⟩ hs
  · rename_i z i
    obtain ⟨rfl, hl⟩ := ra.str
    cases rb.int
    cases q1 : atI z.cps.toList i with
    | none => rw [q1] at e; cases e
    | some c =>
      rw [q1] at e
      cases e
      exact ix_str value slice pins s σ _ _ _ v u Q I rx ry ⟨_, _, _, rfl, rfl, hl, q1, q.now hm w (.str _ (by rw [sizeLine_eq]; exact (by decide : 1 ≤ 16777216)))⟩ hs
  · cases e
theorem cut_rep {K : PySem.W.Frag} {W : Wl} {ds : List Dt} {vs : List V} {lo hi : Option Int} (r : RepL K W vs ds) : RepL K W (cutV vs lo hi) (cutD ds lo hi) := by
  unfold cutV cutD
  rw [r.length]
  exact (r.drop _).take _
theorem cut_whole {α : Type} (xs : List α) (lo hi : Option Int) (h : HT.sIx xs.length 0 lo = 0 ∧ HT.sIx xs.length xs.length hi = xs.length) : cutD xs lo hi = xs := by
  unfold cutD
  rw [h.1, h.2]
  simp
/-- x[lo:hi] -/
def rSl (G : Sur) (m : Md) : V → Option Int → Option Int → Hp → VK → Prop := fun x lo hi H Q => ∃ W S a, W.h = H ∧ Wd G W S ∧ RepB G.K W x a ∧ opt (slcD a lo hi) fun d => wish G m W S d Q
theorem sl_D (m : Md) : SlR X (rSl (sur X) m) := by
  intro pins s σ H x v vl vu lo hi sl Q I rx hs pl pu h
  obtain ⟨W, S, a, rfl, w, ra, q⟩ := h
  obtain ⟨d, e, q⟩ := opt_eq q
  unfold slcD at e
  split at e
  · obtain ⟨p, vs, rfl, s1, r1⟩ := ra.seq w.sub
    cases e
    exact sl_list pins s σ _ _ v vl vu lo hi sl Q I rx hs pl pu ⟨_, _, rfl, s1, fun p hp => wish.new w hp q (cut_rep r1)⟩
  · obtain ⟨p, vs, rfl, f1, s1, r1⟩ := ra.tup w.sub
    cases e
    cases rx
    obtain ⟨its, r, ht, hz⟩ := I.tuple s1.sq
    have hlen : its.toArray.size = vs.length := by rw [List.size_toArray]; exact r.length.symm
    refine ⟨"tuple", _, PyProof.Rows.slot_tuple_getitem.lookup, ht.typeIs, ?_⟩
    by_cases hw : HT.sIx vs.length 0 lo = 0 ∧ HT.sIx vs.length vs.length hi = vs.length
    · refine getItem_tuple_whole ht hs pl pu (by rw [hlen]; exact hw) ⟨.ref p, W.h, I, rfl, ?_⟩
      rw [cut_whole _ _ _ (by rw [← r1.length]; exact hw)] at q
      exact q.flat w (.tup f1 r1) fun ds z => nomatch z
    · refine HT.getItem_tuple_cut ht hs pl pu (by rw [hlen]; exact hw) ?_ (by rw [hlen]; exact hz)
      rw [hlen]
      exact ⟨.ref s.heap.objs.size, _, Inv.tnew (xs := cutV vs lo hi) I ((r.drop (HT.sIx vs.length 0 lo)).take (HT.sIx vs.length vs.length hi - HT.sIx vs.length 0 lo)) (Nat.le_trans (cutV_length vs lo hi) hz), rfl,
        wish.newT w (I.hok.fresh (Nat.le_refl _)) rfl q (cut_rep r1)⟩
  · rename_i z
    obtain ⟨rfl, hl⟩ := ra.str
    cases e
    exact sl_str pins s σ _ _ v vl vu lo hi sl Q I rx hs pl pu ⟨_, rfl, hl, q.flat w (.str _ (Nat.le_trans (cutS_length z lo hi) hl)) fun ds z => nomatch z⟩
  · cases e

/-! ### built-ins -/
theorem bools_rep {K : PySem.W.Frag} {W : Wl} : ∀ {ds : List Dt} {vs : List V} {bs : List Bool}, RepL K W vs ds → boolsOf ds = some bs → vs = bs.map V.bl
  | [], _, bs, .nil, e => by cases e; rfl
  | .bl b :: ds, _, bs, .cons r h, e => by
    cases q : boolsOf ds with
    | none => unfold boolsOf at e; rw [q] at e; cases e
    | some cs =>
      unfold boolsOf at e
      rw [q] at e
      cases e
      cases r
      rw [bools_rep h q]
      rfl
  | .non :: _, _, _, _, e => by cases e
  | .int _ :: _, _, _, _, e => by cases e
  | .str _ :: _, _, _, _, e => by cases e
  | .tup _ :: _, _, _, _, e => by cases e
  | .lst _ :: _, _, _, _, e => by cases e
  | .hdl _ :: _, _, _, _, e => by cases e
  | .dct _ :: _, _, _, _, e => by cases e
def bltV : Blt → Value
  | .len => .builtin "len"
  | .all => .builtin "all"
  | .any => .builtin "any"
  | .tup => .type "tuple"
  | .lst => .type "list"
  | .int => .type "int"
theorem call_blt (hc : X.calm = true) (b : Blt) (m : Md) : CallR X (bltV b) (rC (sur X) (bltD b) m) := by
  intro pins s σ H xs us Q I r h
  obtain ⟨W, S, x, a, rfl, rfl, w, ra, q⟩ := h
  obtain ⟨d, e, q⟩ := opt_eq q
  have hsz := sizeLine_eq
  unfold bltD at e
  split at e
  · obtain ⟨p, vs, rfl, s1, r1⟩ := ra.seq w.sub
    cases e
    refine call_len_seq pins s σ _ _ us Q I r ⟨p, vs, rfl, .inl s1, ?_⟩
    rw [r1.length]
    exact q.flat w (.int _) fun ds z => nomatch z
  · obtain ⟨p, vs, rfl, _, s1, r1⟩ := ra.tup w.sub
    cases e
    refine call_len_seq pins s σ _ _ us Q I r ⟨p, vs, rfl, .inr s1.sq, ?_⟩
    rw [r1.length]
    exact q.flat w (.int _) fun ds z => nomatch z
  · obtain ⟨rfl, hl⟩ := ra.str
    cases e
    exact call_len_str pins s σ _ _ us Q I r ⟨_, rfl, hl, q.flat w (.int _) fun ds z => nomatch z⟩
  · rename_i ds
    obtain ⟨p, vs, rfl, s1, r1⟩ := ra.seq w.sub
    cases q1 : boolsOf ds with
    | none => rw [q1] at e; cases e
    | some bs =>
      rw [q1] at e
      cases e
      have ev := bools_rep r1 q1
      subst ev
      exact cr_all hc pins s σ _ _ us Q I r ⟨p, bs, rfl, s1, q.flat w (.bl _) fun ds z => nomatch z⟩
  · rename_i ds
    obtain ⟨p, vs, rfl, s1, r1⟩ := ra.seq w.sub
    cases q1 : boolsOf ds with
    | none => rw [q1] at e; cases e
    | some bs =>
      rw [q1] at e
      cases e
      have ev := bools_rep r1 q1
      subst ev
      exact cr_any hc pins s σ _ _ us Q I r ⟨p, bs, rfl, s1, q.flat w (.bl _) fun ds z => nomatch z⟩
  · obtain ⟨p, vs, rfl, s1, r1⟩ := ra.seq w.sub
    cases e
    obtain ⟨u, rfl, rx⟩ := vals1 r
    cases rx
    obtain ⟨its, r', pl, hz⟩ := I.list s1
    have hlen := r'.length
    refine call_tuple_list pl.isList (fun h' kp => ?_) (by simp only [List.size_toArray] <;> omega)
    have I1 : Inv X pins σ W.h { s with heap := h' } := I.kept (t' := s.toks) kp
    exact ⟨.ref h'.objs.size, _, Inv.tnew I1 r' hz, rfl, wish.newT w (I1.hok.fresh (Nat.le_refl _)) rfl q r1⟩
  · obtain ⟨p, vs, rfl, f1, s1, r1⟩ := ra.tup w.sub
    cases e
    obtain ⟨u, rfl, rx⟩ := vals1 r
    cases rx
    obtain ⟨its, r', pl, hz⟩ := I.tuple s1.sq
    exact call_tuple_same pl ⟨.ref p, W.h, I, rfl, q.flat w (.tup f1 r1) fun ds z => nomatch z⟩
  · obtain ⟨p, vs, rfl, s1, r1⟩ := ra.seq w.sub
    cases e
    exact call_list_of pins s σ _ _ us Q I r ⟨p, vs, rfl, .inl s1, fun p hp => wish.new w hp q r1⟩
  · obtain ⟨p, vs, rfl, _, s1, r1⟩ := ra.tup w.sub
    cases e
    exact call_list_of pins s σ _ _ us Q I r ⟨p, vs, rfl, .inr s1.sq, fun p hp => wish.new w hp q r1⟩
  · cases ra.int
    cases e
    exact call_int1 pins s σ _ _ us Q I r (.inl ⟨_, rfl, q.flat w (.int _) fun ds z => nomatch z⟩)
  · cases ra.bl
    cases e
    exact call_int1 pins s σ _ _ us Q I r (.inr ⟨_, rfl, q.flat w (.int _) fun ds z => nomatch z⟩)
  · cases e

/-! ### isinstance -/
theorem ty_rep {K : PySem.W.Frag} {z : V} {d : Dt} {t : String} (hs : Same W.f W.h) (r : RepB K W z d) (e : tyD d = some t) : TyX K W.h z (.type t) := by
  cases d with
  | non => cases r.non; cases e; exact .base .non
  | bl b => cases r.bl; cases e; exact .base (.bl _)
  | int i => cases r.int; cases e; exact .base (.int _)
  | str x => obtain ⟨rfl, h⟩ := r.str; cases e; exact .base (.str _)
  | tup ds =>
    obtain ⟨a, vs, rfl, _, h, rl⟩ := r.tup hs
    cases e
    rcases h with ⟨ob, h, _⟩ | ⟨o, its, n, h1, h2, _⟩
    · exact .fTuple h
    · exact .kTuple h1 h2
  | lst ds =>
    obtain ⟨a, vs, rfl, h, rl⟩ := r.seq hs
    cases e
    rcases h with (h | ⟨o, h⟩) | ⟨o, its, n, h1, h2, _⟩
    · exact .base (.lst h)
    · exact .base (.frz h)
    · exact .kList h1 h2
  | hdl _ => cases e
  | dct _ => cases e
abbrev kinds : List String := ["bool", "int", "str", "list", "tuple"]
theorem kit_all : ∀ a ∈ ["NoneType", "bool", "int", "str", "list", "tuple"], ∀ b ∈ kinds, kitB a b = some (a == b || (a == "bool" && b == "int")) := by decide +kernel
theorem tyD_mem {d : Dt} {t : String} (e : tyD d = some t) : t ∈ ["NoneType", "bool", "int", "str", "list", "tuple"] := by
  cases d <;> first | (cases e; decide) | cases e
theorem kit_any {K : PySem.W.Frag} {t : String} (ht : t ∈ ["NoneType", "bool", "int", "str", "list", "tuple"]) : ∀ ts : List String, (∀ x ∈ ts, x ∈ kinds) → PySem.W.kitAny K (.type t) (ts.map .type) = some (ts.contains t || (t == "bool" && ts.contains "int"))
  | [], _ => by
    show some false = _
    simp
  | x :: ts, h => by
    have ih := kit_any (K := K) ht ts fun y hy => h y (List.mem_cons_of_mem _ hy)
    have k := kit_ty (K := K) (kit_all t ht x (h x List.mem_cons_self))
    refine kitAny_cons k (fun hb => ?_) fun hb => ?_
    · rw [Bool.or_eq_false_iff] at hb
      refine ih.trans (congrArg some ?_)
      have e1 : (t == x) = false := hb.1
      rw [List.contains_cons, List.contains_cons, e1, Bool.false_or]
      have e2 := hb.2
      cases hx : t == "bool" with
      | false => rfl
      | true =>
        rw [hx, Bool.true_and] at e2
        have e3 : ("int" == x) = false := by
          rw [beq_eq_false_iff_ne] at e2 ⊢
          exact fun z => e2 z.symm
        rw [e3]
        rfl
    · rw [Bool.or_eq_true] at hb
      rw [List.contains_cons, List.contains_cons]
      rcases hb with hb | hb
      · rw [hb]; rfl
      · rw [Bool.and_eq_true] at hb
        have e3 : ("int" == x) = true := beq_iff_eq.mpr (eq_of_beq hb.2).symm
        rw [hb.1, e3]
        simp

/-! ### methods -/
inductive Kd where
  | str | tup | lst
  deriving DecidableEq
def kdD : Dt → Option Kd
  | .str _ => some .str
  | .tup _ => some .tup
  | .lst _ => some .lst
  | _ => none
def kdT : Kd → String
  | .str => "str"
  | .tup => "tuple"
  | .lst => "list"
def mthN : Mth → Str
  | .count => "count"
  | .index => "index"
  | .join => "join"
  | .split => "split"
def mthI : Mth → Kd → Option String
  | .count, .tup => some "tuple.count"
  | .index, .tup => some "tuple.index"
  | .index, .lst => some "list.index"
  | .join, .str => some "str.join"
  | .split, .str => some "str.split"
  | _, _ => none
theorem kd_is {z : V} {u : Value} {d : Dt} {k : Kd} (I : Inv X pins σ W.h s) (hs : Same W.f W.h) (r : RepB X.K W z d) (ru : RelV z u) (e : kdD d = some k) : s.TypeIs u (kdT k) ∧ ∀ a, u = .ref a → ∃ ob, s.heap.get? a = some ob ∧ ob.dict = none := by
  cases d with
  | str x =>
    obtain ⟨rfl, h⟩ := r.str
    cases e
    obtain ⟨t, rfl⟩ := ru
    exact ⟨typeIs_str s x t, fun _ e => nomatch e⟩
  | tup ds =>
    obtain ⟨a, vs, rfl, _, h, rl⟩ := r.tup hs
    cases e
    cases ru
    obtain ⟨its, _, pl, _⟩ := I.tuple h.sq
    refine ⟨pl.typeIs, fun a e => ?_⟩
    cases e
    rcases h with ⟨ob, h, hd⟩ | ⟨o, its, n, h1, h2, h3, _⟩
    · obtain ⟨h1, _⟩ := I.hok _ _ h
      exact ⟨ob, h1, hd⟩
    · exact ⟨o, I.kIn _ o h1, h3⟩
  | lst ds =>
    obtain ⟨a, vs, rfl, h, rl⟩ := r.seq hs
    cases e
    cases ru
    obtain ⟨its, _, pl, _⟩ := I.list h
    refine ⟨pl.isList.typeIs, fun a e => ?_⟩
    cases e
    obtain ⟨o, n, e, c, hd, _⟩ := pl
    exact ⟨o, e, hd⟩
  | _ => cases e
theorem mth_slot {m : Mth} {k : Kd} {id : String} (e : mthI m k = some id) : PlainAttrs (kdT k) ∧ Slot (kdT k) (mthN m) id ∧ typeOf (.builtin id) = pure (.type "method_descriptor") := by
  cases m <;> cases k <;> first
    | (cases e; exact ⟨PySem.F.plainAttrs_tuple, PySem.F.slot_tuple_count, PySem.F.type_tuple_count⟩)
    | (cases e; exact ⟨PySem.F.plainAttrs_tuple, PySem.F.slot_tuple_index, PySem.F.type_tuple_index⟩)
    | (cases e; exact ⟨PySem.F.plainAttrs_list, PySem.F.slot_list_index, PySem.F.type_list_index⟩)
    | (cases e; exact ⟨PySem.F.plainAttrs_str, PySem.F.slot_str_join, PySem.F.type_str_join⟩)
    | (cases e; exact ⟨PySem.F.plainAttrs_str, PySem.F.slot_str_split, PySem.F.type_str_split⟩)
    | cases e
theorem strs_rep {K : PySem.W.Frag} {W : Wl} : ∀ {ds : List Dt} {vs : List V} {bs : List Str}, RepL K W vs ds → strsOf ds = some bs → vs = bs.map V.str
  | [], _, bs, .nil, e => by cases e; rfl
  | .str b :: ds, _, bs, .cons r h, e => by
    cases q : strsOf ds with
    | none => unfold strsOf at e; rw [q] at e; cases e
    | some cs =>
      unfold strsOf at e
      rw [q] at e
      cases e
      cases r
      rw [strs_rep h q]
      rfl
  | .non :: _, _, _, _, e => by cases e
  | .int _ :: _, _, _, _, e => by cases e
  | .bl _ :: _, _, _, _, e => by cases e
  | .tup _ :: _, _, _, _, e => by cases e
  | .lst _ :: _, _, _, _, e => by cases e
  | .hdl _ :: _, _, _, _, e => by cases e
  | .dct _ :: _, _, _, _, e => by cases e
theorem strs_to {K : PySem.W.Frag} {W : Wl} : ∀ (bs : List Str), (bs.all fun x => decide (x.length ≤ sizeLine)) = true → RepL K W (bs.map V.str) (bs.map .str)
  | [], _ => .nil
  | b :: bs, h => by
    rw [List.all_cons, Bool.and_eq_true] at h
    exact .cons (.str b (of_decide_eq_true h.1)) (strs_to bs h.2)
theorem items_eqD (I : Inv X pins σ W.h s) (hs : Same W.f W.h) {ds : List Dt} {vs : List V} {its : List Value} {y : V} {u : Value} {b : Dt} (h1 : (ds.all (okD 11)) = true) (r1 : RepL X.K W vs ds) (rv : Vals vs its) (h2 : plainD b = true) (r2 : RepB X.K W y b) (ru : RelV y u)
    (hu : X.A.units + 64 < cLine) : ∃ as bs, ReadsAll s.heap its (toPys ds) as ∧ Reads s.heap u (toPy b) bs ∧ PyData.plainAll (toPys ds) = true ∧ (toPy b).plain = true ∧ X.A.units + 1 + min (PyData.depthAll (toPys ds)) (toPy b).depth < cLine := by
  obtain ⟨as, h3⟩ := RepL.reads I hs 11 ds vs its h1 r1 rv
  obtain ⟨bs, h4⟩ := r2.reads I hs h2 ru
  have h5 : (toPy b).depth ≤ 12 := (okD_plain deep b h2).2
  have h6 : min (PyData.depthAll (toPys ds)) (toPy b).depth ≤ (toPy b).depth := Nat.min_le_right _ _
  exact ⟨as, bs, h3, h4, (okD_list 11 ds h1).1, (okD_plain deep b h2).1, by omega⟩
end
end Vr

/-! Methods over data, calls of defs, what an expression's reading is. -/
namespace Vr
open PySem PySem.Spec PyProof.Rows L2

section
variable {X : Cx} {pins : List (Addr × Obj)} {σ : L2.St} {s : Shared} {W : Wl}
theorem place_py (ds : List Dt) (b : Dt) : SeqAt.dataPlace (toPys ds) (toPy b) = ds.findIdx? fun z => eqD z b := by
  unfold SeqAt.dataPlace
  rw [toPys_eq, List.findIdx?_map]
  rfl
theorem count_py (ds : List Dt) (b : Dt) : ((toPys ds).countP fun z => PyData.eqv z (toPy b)) = ds.countP fun z => eqD z b := by
  rw [toPys_eq, List.countP_map]
  rfl
theorem mt_D (hu : X.A.units + 64 < cLine) (m : Mth) (k : Kd) (id : String) (hi : mthI m k = some id) (md : Md) {S : Store} {x y : V} {v u : Value} {a b : Dt} {Q : VK} (I : Inv X pins σ W.h s) (rx : RelV x v) (ry : RelV y u) (w : Wd (sur X) W S)
    (ra : RepB X.K W x a) (rb : RepB X.K W y b) (hk : kdD a = some k) (h : opt (mthD m a b) fun d => wish (sur X) md W S d Q) : wpAny (model X.prog X.w) X.A (call (.builtin id) [v, u]) (EP X pins σ Q) X.xe s := by
  obtain ⟨d, e, q⟩ := opt_eq h
  clear h
  have hsz := sizeLine_eq
  unfold mthD at e
  split at e
  · rename_i b0 ds
    cases hk
    cases hi
    split at e
    · rename_i hp
      rw [Bool.and_eq_true] at hp
      cases e
      obtain ⟨p, vs, rfl, _, s1, r1⟩ := ra.tup w.sub
      cases rx
      obtain ⟨its, rv, ht, _⟩ := I.tuple s1.sq
      obtain ⟨as, bs, h1, h2, h3, h4, h5⟩ := items_eqD I w.sub hp.2 r1 rv hp.1 rb ry hu
      refine SeqAt.count_tuple_data (vs := its.toArray) ht (by rw [List.toList_toArray]; exact h1) h2 h3 h4 h5 ?_
      rw [count_py]
      exact ⟨.int _, W.h, I.tok _, ⟨_, rfl⟩, q.flat w (.int _) fun ds z => nomatch z⟩
    · cases e
  · rename_i b0 ds
    cases hk
    cases hi
    split at e
    · rename_i hp
      rw [Bool.and_eq_true] at hp
      cases hj : ds.findIdx? fun z => eqD z b with
      | none => rw [hj] at e; cases e
      | some j =>
        rw [hj] at e
        cases e
        obtain ⟨p, vs, rfl, _, s1, r1⟩ := ra.tup w.sub
        cases rx
        obtain ⟨its, rv, ht, hz⟩ := I.tuple s1.sq
        obtain ⟨as, bs, h1, h2, h3, h4, h5⟩ := items_eqD I w.sub hp.2 r1 rv hp.1 rb ry hu
        have h1' : ReadsAll s.heap its.toArray.toList (toPys ds) as := by rw [List.toList_toArray]; exact h1
        obtain ⟨jl, j1, j2⟩ := SeqAt.hit_at (d := toPy b) h1' h3 ((place_py ds b).trans hj)
        obtain ⟨⟨cls, dd, data, sl⟩, ho, hc, n, hd⟩ := id ht
        simp only at hc hd
        subst hc hd
        exact call_meets PySem.F.slot_tuple_index ⟨_, ho, rfl⟩ PySem.F.entry_tuple_index (PySem.F.args_tuple_index_2 _ _) (TI.tuple_indexAt p its.toArray n dd sl u _ j jl j1 j2)
          ⟨ho, SeqAt.items_plain h1' h2 h3 h4 h5, ⟨.int (j : Nat), W.h, I.tok _, ⟨_, rfl⟩, q.flat w (.int _) fun ds z => nomatch z⟩⟩
    · cases e
  · rename_i b0 ds
    cases hk
    cases hi
    split at e
    · rename_i hp
      rw [Bool.and_eq_true] at hp
      cases hj : ds.findIdx? fun z => eqD z b with
      | none => rw [hj] at e; cases e
      | some j =>
        rw [hj] at e
        cases e
        obtain ⟨p, vs, rfl, s1, r1⟩ := ra.seq w.sub
        cases rx
        obtain ⟨its, rv, pl, hz⟩ := I.list s1
        obtain ⟨as, bs, h1, h2, h3, h4, h5⟩ := items_eqD I w.sub hp.2 r1 rv hp.1 rb ry hu
        have h1' : ReadsAll s.heap its.toArray.toList (toPys ds) as := by rw [List.toList_toArray]; exact h1
        obtain ⟨jl, j1, j2⟩ := SeqAt.hit_at (d := toPy b) h1' h3 ((place_py ds b).trans hj)
        obtain ⟨⟨cls, dd, data, sl⟩, n, ho, hc, hdn, hd⟩ := pl
        simp only at hc hd hdn
        subst hc hd hdn
        have hjs : (j : Int) < 2 ^ 63 - 1 := by
          have h6 : j < its.length := by simpa using jl
          have h7 := rv.length
          omega
        exact call_meets PySem.F.slot_list_index ⟨_, ho, rfl⟩ PySem.F.entry_list_index (PySem.F.args_list_index_2 _ _) (SeqAt.list_indexAt p its.toArray n none sl u _ j jl hjs j1 j2)
          ⟨ho, SeqAt.items_plain h1' h2 h3 h4 h5, ⟨.int (j : Nat), W.h, I.tok _, ⟨_, rfl⟩, q.flat w (.int _) fun ds z => nomatch z⟩⟩
    · cases e
  · rename_i z ds
    cases hk
    cases hi
    cases hs : strsOf ds with
    | none => rw [hs] at e; cases e
    | some xs =>
      rw [hs] at e
      have e' : (if (xs.map (·.length)).sum + xs.length * z.length ≤ 16777216 ∧ (Txt.join z xs).length ≤ sizeLine then some (Dt.str (Txt.join z xs)) else none) = some d := e
      split at e'
      · rename_i hl
        cases e'
        obtain ⟨rfl, _⟩ := ra.str
        obtain ⟨p, vs, rfl, s1, r1⟩ := rb.seq w.sub
        have ev := strs_rep r1 hs
        subst ev
        exact mt_join pins s σ W.h _ _ v [u] Q I rx (.cons ry .nil) ⟨z, p, xs, rfl, rfl, .inl s1, hl.1, q.flat w (.str _ hl.2) fun ds z => nomatch z⟩
      · cases e'
  · rename_i z ds
    cases hk
    cases hi
    cases hs : strsOf ds with
    | none => rw [hs] at e; cases e
    | some xs =>
      rw [hs] at e
      have e' : (if (xs.map (·.length)).sum + xs.length * z.length ≤ 16777216 ∧ (Txt.join z xs).length ≤ sizeLine then some (Dt.str (Txt.join z xs)) else none) = some d := e
      split at e'
      · rename_i hl
        cases e'
        obtain ⟨rfl, _⟩ := ra.str
        obtain ⟨p, vs, rfl, _, s1, r1⟩ := rb.tup w.sub
        have ev := strs_rep r1 hs
        subst ev
        exact mt_join pins s σ W.h _ _ v [u] Q I rx (.cons ry .nil) ⟨z, p, xs, rfl, rfl, .inr s1.sq, hl.1, q.flat w (.str _ hl.2) fun ds z => nomatch z⟩
      · cases e'
  · rename_i z b'
    cases hk
    cases hi
    split at e
    · rename_i hl
      cases e
      obtain ⟨rfl, _⟩ := ra.str
      obtain ⟨rfl, _⟩ := rb.str
      exact mt_split pins s σ W.h _ _ v [u] Q I rx (.cons ry .nil) ⟨z, b', rfl, rfl, hl.1, hl.2.1, fun p hp => wish.new w hp q (strs_to _ hl.2.2)⟩
    · cases e
  · cases e
end

/-! ### defs by data -/
/-- an exception as it lies -/
def RepX (G : Sur) (W : Wl) (cls : Value) (dd : Option Addr) (x : Xn) : Prop := ∃ C, cls = .ref C ∧ G.mg x.cls = some (.ref C) ∧ match x.fld with
  | none => True
  | some (f, d) => ∃ a v, dd = some a ∧ W.h a = some (.xd [(f, v)]) ∧ Rep G.K W v d
/-- a def's promise by data -/
def mdOf (o : Bool) : Md := if o then .ow else .sh
def spF (G : Sur) (F : Fn) : Sp := fun vs H Q E => ∃ W S ds, W.h = H ∧ Wd G W S ∧ RepL G.K W vs ds ∧
  F.run ds S (fun d S' => wish' F.own d S' W Q) (fun x S' => ∀ cls dd W', Wd G W' S' → Ext W W' → RepX G W' cls dd x → E cls dd W'.h)
where wish' (o : Bool) (d : Dt) (S' : Store) (W : Wl) (Q : VK) : Prop := ∀ z W', Wd G W' S' → Ext W W' → Rz G.K (mdOf o) W W' z d → Q z W'.h
/-- what is known of the def of a name, at a level -/
structure FnFact (G : Sur) (k : Nat) (f : Str) (F : Fn) : Prop where
  ex : ∃ a fd ps, G.mg f = some (.ref a) ∧ FnOk G.P G.w G.K G.mg G.base (L2.CX G.P G.w) k a fd ps (spF G F) ∧ PySem.W.keepIn G.K (.ref a) = true ∧ Binds G.K fd ps []
theorem FnFact.mono {G : Sur} {j k : Nat} {f : Str} {F : Fn} (h : FnFact G j f F) (hl : j ≤ k) : FnFact G k f F := by
  obtain ⟨a, fd, ps, h1, h3, h4, h5⟩ := h.ex
  exact ⟨⟨a, fd, ps, h1, h3.mono hl, h4, h5⟩⟩
/-- a new list may be shared -/
theorem wish.share {G : Sur} {m : Md} {W : Wl} {S : Store} {d : Dt} {Q : VK} (h : wish G m W S d Q) : wish G .ow W S d Q := by
  intro z W' w e r
  by_cases hd : ∃ ds, d = .lst ds
  · obtain ⟨ds, rfl⟩ := hd
    cases m with
    | ow => exact h z W' w e r
    | sh =>
      obtain ⟨l, vs, rfl, h1, h2, h3, h4, h5⟩ := r.1 ds rfl
      exact h (.ref l) (W'.frz l (.lst vs)) (w.frz h1 h4 h3) (e.frz h5 h3) (.lst (SqL.of upd_same) (h2.frz h3))
    | bo =>
      obtain ⟨l, vs, rfl, h1, h2, h3, h4, h5⟩ := r.1 ds rfl
      exact h (.ref l) (W'.frz l (.lst vs)) (w.frz h1 h4 h3) (e.frz h5 h3) (.inl (.lst (SqL.of upd_same) (h2.frz h3)))
  · have r' := r.2 fun ds q => hd ⟨ds, q⟩
    cases m with
    | ow => exact h z W' w e r
    | sh => exact h z W' w e r'
    | bo => exact h z W' w e (.inl r')
theorem wish.sh {G : Sur} {m : Md} {W : Wl} {S : Store} {d : Dt} {Q : VK} (hm : m ≠ .ow) (h : wish G m W S d Q) : wish G .sh W S d Q := by
  intro z W' w e r
  cases m with
  | ow => exact absurd rfl hm
  | sh => exact h z W' w e r
  | bo => exact h z W' w e (.inl r)
end Vr

/-! sorted(set(texts)), as an expression. -/
namespace Vr
open PySem PySem.Spec PyProof.Rows L2
theorem boot_sorted' : bootBuiltins "sorted" = some (.builtin "sorted") := by decide +kernel
theorem boot_set' : bootBuiltins "set" = some (.type "set") := by decide +kernel
theorem vals_txt : ∀ {zs : List Str} {us : List Value}, PySem.W.EachIs TxtV us zs → Vals (zs.map V.str) us
  | _, _, .nil => .nil
  | _, _, .cons ⟨t, e⟩ r => .cons ⟨t, e⟩ (vals_txt r)
theorem erase_len : ∀ (n : Nat) (xs : List Str), xs.length ≤ n → xs.eraseDups.length ≤ xs.length
  | _, [], _ => Nat.le_refl _
  | 0, x :: xs, h => by simp at h
  | n + 1, x :: xs, h => by
    rw [List.eraseDups_cons, List.length_cons, List.length_cons]
    have h1 := List.length_filter_le (fun b => !b == x) xs
    have h2 := erase_len n (xs.filter fun b => !b == x) (Nat.le_trans h1 (by simpa using h))
    omega
theorem srt_len (xs : List Str) : (srtS xs).length ≤ xs.length := by
  unfold srtS
  rw [List.length_mergeSort]
  exact erase_len _ xs (Nat.le_refl _)
def tSrs (K : PySem.W.Frag) (ta : TE) : TE := fun σ H Q => ta σ H fun x H1 => ∃ l, ∃ xs : List Str, x = .ref l ∧ SqL K H1 l (xs.map V.str) ∧ xs.length ≤ 4000 ∧ ∀ p, H1 p = none → Q (.ref p) (upd H1 p (.lst ((srtS xs).map V.str)))
theorem pe_srs {X : Cx} {a : Expr} {ta : TE} {p p2 q pos : Pos} (hc : X.calm = true) (hu : X.A.units + 64 < cLine) (hg : Gl X "sorted") (hm : X.mg "sorted" = none) (hg2 : Gl X "set") (hm2 : X.mg "set" = none) (ha : PE X a ta)
    (na : starEach [a] X.env = (false, eval a X.env) :: starEach [] X.env) : PE X (.Call (.Name "sorted" p) [.Call (.Name "set" p2) [a] [] q] [] pos) (tSrs X.K ta) := by
  refine ⟨fun pins s σ H Q I h => ?_⟩
  refine Call_ (ld_blt I hg hm boot_sorted' ?_)
  refine PyProof.Rows.callWith_builtin1 (PyProof.Rows.args_cons ?_ rfl) rfl rfl
  refine Call_ (ld_blt I hg2 hm2 boot_set' ?_)
  refine PyProof.Rows.callWith_type1 (PyProof.Rows.args_cons (thn (ha.run pins s σ H _ I h) fun v s1 ⟨x, H1, I1, r1, q1⟩ => PyProof.Rows.args_nil ?_) na) na rfl
  obtain ⟨l, xs, rfl, hq, h1, q1⟩ := q1
  cases r1
  obtain ⟨its, r, pl, hz⟩ := I1.list hq
  refine call_set_strs (P := X.prog) (w := X.w) (I1.ok.hd hc) pl.isList (xs := xs) (by simpa using strsAre_of r) (by unfold scanBound; omega) fun h' tk m hml hS hk => ?_
  refine PyProof.Rows.args_nil ?_
  have I2 : Inv X pins σ H1 { s1 with heap := h', toks := tk } := I1.kept fun b o e => hk b o e
  refine sorted_setS (s := { s1 with heap := h', toks := tk }) hS (I2.ok.hd hc) (by omega) (by omega) fun s' p' out c zs k g o hp hget he n1 m1 p1 => ?_
  have ez : zs = srtS xs := srt_of n1 p1 m1
  subst ez
  have hn : H1 p' = none := I2.hok.fresh hp
  have v := vals_txt he
  have hlen : ((srtS xs).map V.str).length ≤ sizeLine := by
    have h2 := srt_len xs
    rw [List.length_map, sizeLine_eq]
    omega
  have J : Inv X pins σ (upd H1 p' (.lst ((srtS xs).map V.str))) { ({ s1 with heap := h', toks := tk } : Shared) with heap := s'.heap, gens := s'.gens, drawn := s'.drawn, toks := s'.toks } :=
    I2.call (ch := []) (Un.laid k hp hn) (I2.hok.laid k hp ⟨hlen, out.toList, c, v, hget⟩) (by rw [g]; exact I2.bare) (fun _ z => nomatch z)
  have e : s' = { ({ s1 with heap := h', toks := tk } : Shared) with heap := s'.heap, gens := s'.gens, drawn := s'.drawn, toks := s'.toks } := by
    cases s'
    cases s1
    cases o
    rfl
  rw [e]
  exact ⟨.ref p', _, J, rfl, q1 p' hn⟩
end Vr

/-! The readings of the terms, and the rules that join them. -/
namespace Vr
open PySem PySem.Spec PyProof.Rows L2

/-- what is wanted of an exception that leaves -/
def EXr (G : Sur) (W0 : Wl) (R : XR) : XK := fun cls dd H' => ∃ x S' W', W'.h = H' ∧ Wd G W' S' ∧ Ext W0 W' ∧ RepX G W' cls dd x ∧ R x S'
structure Cxt (k : Nat) (N : List Str) (sc : Scope) (W0 : Wl) (R : XR) (X : Cx) : Prop where
  n : X.N = N
  nd : N.Nodup
  sc : X.env.scope = sc
  kind : X.env.scope.kind = .function
  calm : X.calm = true
  room : Room k X.A
  pass : Passes (L2.CX X.prog X.w) X (EXr (sur X) W0 R)
/-- where a term stands -/
structure At (G : Sur) (W0 : Wl) (σ : L2.St) (H : Hp) (W : Wl) (S : Store) (ρ : Ev) : Prop where
  h : W.h = H
  w : Wd G W S
  e0 : Ext W0 W
  ev : EvOk G.K W0.h W σ ρ
def tE (G : Sur) (W0 : Wl) (R : XR) (m : Md) (E : Ex) : TE := fun σ H Q => ∃ W S ρ, At G W0 σ H W S ρ ∧ wp E R ρ S fun d S' => wish G m W S' d Q
def tT (G : Sur) (W0 : Wl) (R : XR) (E : Ex) : TT := fun σ H Q => ∃ W S ρ, At G W0 σ H W S ρ ∧ wp E R ρ S fun d S' => opt (tru d) fun k => ∀ W', Wd G W' S' → Ext W W' → Q k W'.h
def tL (G : Sur) (W0 : Wl) (R : XR) (E : Ex) : TA := fun σ H Q => ∃ W S ρ, At G W0 σ H W S ρ ∧ wp E R ρ S fun d S' => match d with
  | .tup ds => ∀ zs W', Wd G W' S' → Ext W W' → RepL G.K W' zs ds → Q zs W'.h
  | _ => False
theorem PE.imp {X : Cx} {e : Expr} {t t' : TE} (h : PE X e t) (f : ∀ σ H Q, t' σ H Q → t σ H Q) : PE X e t' := ⟨fun pins s σ H Q I w => h.run pins s σ H Q I (f σ H Q w)⟩
theorem PT.imp {X : Cx} {e : Expr} {t t' : TT} (h : PT X e t) (f : ∀ σ H Q, t' σ H Q → t σ H Q) : PT X e t' := ⟨fun pins s σ H Q I w => h.run pins s σ H Q I (f σ H Q w)⟩
theorem PA.imp {X : Cx} {e : List Expr} {t t' : TA} (h : PA X e t) (f : ∀ σ H Q, t' σ H Q → t σ H Q) : PA X e t' := ⟨fun pos pins s σ H Q I w => h.run pos pins s σ H Q I (f σ H Q w)⟩
theorem PI.imp {X : Cx} {tg e : Expr} {t t' : TI} (h : PI X tg e t) (f : ∀ σ H Q, t' σ H Q → t σ H Q) : PI X tg e t' := ⟨fun pins s σ H Q I w => h.run pins s σ H Q I (f σ H Q w)⟩

theorem At.on {G : Sur} {W0 : Wl} {σ : L2.St} {H : Hp} {W W1 : Wl} {S S1 : Store} {ρ : Ev} (a : At G W0 σ H W S ρ) (w : Wd G W1 S1) (e : Ext W W1) : At G W0 σ W1.h W1 S1 ρ := ⟨rfl, w, a.e0.trans e, a.ev.mono e⟩
theorem none_back {W W1 : Wl} (e : Ext W W1) {l : Addr} (h : W1.h l = none) : W.h l = none := by
  cases q : W.h l with
  | none => rfl
  | some o =>
    by_cases hl : l ∈ W.ad
    · rcases e.td l hl with z | z
      · exact absurd h z
      · rw [z] at q; cases q
    · rw [e.h l o q hl] at h; cases h
theorem Rz.back {K : PySem.W.Frag} {m : Md} {W W1 W2 : Wl} (e : Ext W W1) {z : V} {d : Dt} (h : Rz K m W1 W2 z d) : Rz K m W W2 z d := by
  cases m with
  | sh => exact h
  | bo => exact h
  | ow =>
    refine ⟨fun ds hd => ?_, h.2⟩
    obtain ⟨l, vs, h1, h2, h3, h4, h5, h6⟩ := h.1 ds hd
    exact ⟨l, vs, h1, h2, h3, h4, h5, none_back e h6⟩
theorem wish.on {G : Sur} {m : Md} {W W1 : Wl} {S : Store} {d : Dt} {Q : VK} (h : wish G m W S d Q) (e : Ext W W1) : wish G m W1 S d Q := fun z W' w' e' r => h z W' w' (e.trans e') (r.back e)

section
variable {X : Cx} {W0 : Wl} {R : XR} {a b c : Expr} {A B C : Ex} {pos : Pos}
/-- two operands -/
theorem two {G : Sur} {σ : L2.St} {H : Hp} {W : Wl} {S : Store} {ρ : Ev} {J : Dt → Dt → Store → Prop} {Q : V → V → Hp → Prop} (at_ : At G W0 σ H W S ρ) (h : wp A R ρ S fun x S1 => wp B R ρ S1 fun y S2 => J x y S2)
    (f : ∀ x y d1 d2 W2 S2, At G W0 σ W2.h W2 S2 ρ → Ext W W2 → RepB G.K W2 x d1 → RepB G.K W2 y d2 → J d1 d2 S2 → Q x y W2.h) : tE G W0 R .bo A σ H fun x H1 => tE G W0 R .bo B σ H1 fun y H2 => Q x y H2 :=
  ⟨W, S, ρ, at_, wp_mono _ _ _ _ _ _ _ (fun _ _ z => z) (fun d1 S1 q1 x W1 w1 e1 r1 => ⟨W1, S1, ρ, at_.on w1 e1, wp_mono _ _ _ _ _ _ _ (fun _ _ z => z) (fun d2 S2 q2 y W2 w2 e2 r2 =>
    f x y d1 d2 W2 S2 (at_.on w2 (e1.trans e2)) (e1.trans e2) (RepB.mono e2 r1) r2 q2) q1⟩) h⟩
theorem one {G : Sur} {m : Md} {σ : L2.St} {H : Hp} {W : Wl} {S : Store} {ρ : Ev} {J : Dt → Store → Prop} {Q : VK} (at_ : At G W0 σ H W S ρ) (h : wp A R ρ S J)
    (f : ∀ x d W1 S1, At G W0 σ W1.h W1 S1 ρ → Ext W W1 → Rz G.K m W W1 x d → J d S1 → Q x W1.h) : tE G W0 R m A σ H Q :=
  ⟨W, S, ρ, at_, wp_mono _ _ _ _ _ _ _ (fun _ _ z => z) (fun d S1 q1 x W1 w1 e1 r1 => f x d W1 S1 (at_.on w1 e1) e1 r1 q1) h⟩
theorem r_bin (o : Bop) (m : Md) (ha : PE X a (tE (sur X) W0 R .bo A)) (hb : PE X b (tE (sur X) W0 R .bo B)) : PE X (.BinOp a (bopOf o) b pos) (tE (sur X) W0 R m (.bin o A B)) :=
  PE.imp (pe_op (op_bin o m) ha hb) fun σ H Q ⟨W, S, ρ, at_, h⟩ => two at_ h fun x y d1 d2 W2 S2 a2 e r1 r2 q => ⟨W2, S2, d1, d2, rfl, a2.w, r1, r2, opt_mono (fun d z => wish.on z e) q⟩
def notSetB : Expr → Bool
  | .Set .. => false
  | _ => true
theorem notSet_marks {op : CmpOp} {e : Expr} (h : notSetB e = true) : behindInMarks op e = false := by
  cases e <;> first | rfl | cases h
theorem r_cmp (hu : X.A.units + 64 < cLine) (o : Cop) (hs : notSetB b = true) (ha : PE X a (tE (sur X) W0 R .bo A)) (hb : PE X b (tE (sur X) W0 R .bo B)) {m : Md} :
    PE X (.Compare a [copOf o] [b] pos) (tE (sur X) W0 R m (.cmp o A B)) :=
  PE.imp (pe_cmpR (op_cmp hu o) ha hb (notSet_marks hs)) fun σ H Q ⟨W, S, ρ, at_, h⟩ => two at_ h fun x y d1 d2 W2 S2 a2 e r1 r2 q => ⟨W2, S2, d1, d2, rfl, a2.w, r1, r2, opt_mono (fun d z => (wish.on z e).flat a2.w (.bl _) fun ds z => nomatch z) q⟩
theorem t_cmp (hu : X.A.units + 64 < cLine) (o : Cop) (hs : notSetB b = true) (ha : PE X a (tE (sur X) W0 R .bo A)) (hb : PE X b (tE (sur X) W0 R .bo B)) :
    PT X (.Compare a [copOf o] [b] pos) (tT (sur X) W0 R (.cmp o A B)) :=
  PT.imp (pt_cmpR (op_cmp hu o) ha hb (notSet_marks hs)) fun σ H Q ⟨W, S, ρ, at_, h⟩ => two (Q := fun x y H2 => rK (sur X) (cmpD o) x y H2 fun z H' => ∃ k, z = .bl k ∧ Q k H') at_ h fun x y d1 d2 W2 S2 a2 e r1 r2 q =>
    ⟨W2, S2, d1, d2, rfl, a2.w, r1, r2, opt_mono (fun k z => ⟨k, rfl, z W2 a2.w e⟩) q⟩
theorem marks2 {o o' : CmpOp} {b c : Expr} (hc : notSetB c = true) : lastMarks [o, o'] [b, c] = false := by
  cases c <;> first | rfl | cases hc
theorem chain_read {G : Sur} {o o' : Cop} {σ : L2.St} {H : Hp} {W : Wl} {S : Store} {ρ : Ev} {Q : VK} {J : Dt → Store → Prop} (at_ : At G W0 σ H W S ρ)
    (h : wp A R ρ S fun x S1 => wp B R ρ S1 fun y S2 => opt (cmpD o x y) fun k => match k with
      | true => wp C R ρ S2 fun z S3 => opt (cmpD o' y z) fun k' => J (.bl k') S3
      | false => J (.bl false) S2) (f : ∀ k S2 W2, At G W0 σ W2.h W2 S2 ρ → Ext W W2 → J (.bl k) S2 → Q (.bl k) W2.h) :
    tChain (rK G (cmpD o)) (rK G (cmpD o')) (tE G W0 R .bo A) (tE G W0 R .bo B) (tE G W0 R .bo C) σ H Q := by
  refine two at_ h fun x y d1 d2 W2 S2 a2 e r1 r2 q => ⟨W2, S2, d1, d2, rfl, a2.w, r1, r2, opt_mono (fun k z => ⟨k, rfl, ?_⟩) q⟩
  cases k with
  | true =>
    rw [if_pos rfl]
    exact one (m := .bo) a2 z fun x3 d3 W3 S3 a3 e3 r3 q3 => ⟨W3, S3, d2, d3, rfl, a3.w, RepB.mono e3 r2, r3, opt_mono (fun k' z' => f k' S3 W3 a3 (e.trans e3) z') q3⟩
  | false =>
    rw [if_neg Bool.false_ne_true]
    exact f false S2 W2 a2 e z
theorem r_chn (hu : X.A.units + 64 < cLine) (o o' : Cop) (hs : notSetB c = true) (ha : PE X a (tE (sur X) W0 R .bo A)) (hb : PE X b (tE (sur X) W0 R .bo B)) (hc : PE X c (tE (sur X) W0 R .bo C)) {m : Md} :
    PE X (.Compare a [copOf o, copOf o'] [b, c] pos) (tE (sur X) W0 R m (.chn o o' A B C)) :=
  PE.imp (pe_chain (op_cmp hu o) (op_cmp hu o') ha hb hc (marks2 hs)) fun σ H Q ⟨W, S, ρ, at_, h⟩ => chain_read (J := fun d S' => wish (sur X) m W S' d Q) at_ h fun k S2 W2 a2 e z => (wish.on z e).flat a2.w (.bl _) fun ds z => nomatch z
theorem t_chn (hu : X.A.units + 64 < cLine) (o o' : Cop) (hs : notSetB c = true) (ha : PE X a (tE (sur X) W0 R .bo A)) (hb : PE X b (tE (sur X) W0 R .bo B)) (hc : PE X c (tE (sur X) W0 R .bo C)) :
    PT X (.Compare a [copOf o, copOf o'] [b, c] pos) (tT (sur X) W0 R (.chn o o' A B C)) :=
  PT.imp (pt_chain (op_cmp hu o) (op_cmp hu o') ha hb hc (marks2 hs)) fun σ H Q ⟨W, S, ρ, at_, h⟩ => chain_read (J := fun d S' => opt (tru d) fun k => ∀ W', Wd (sur X) W' S' → Ext W W' → Q k W'.h) (Q := fun z H' => ∃ k, z = .bl k ∧ Q k H') at_ h fun k S2 W2 a2 e z => ⟨k, rfl, z W2 a2.w e⟩

/-! ### names, constants -/
theorem r_var (i : Nat) {x : Str} (hN : X.N[i]? = some x) (hv : Vis X.env.scope x) (hd : (x == ("__debug__" : Str)) = false) (hcd : (x == ("__classdict__" : Str)) = false) {m : Md} (hm : m = .sh ∨ m = .bo) : PE X (.Name x pos) (tE (sur X) W0 R m (.var i)) :=
  PE.imp (pe_var hN hv hd hcd) fun σ H Q ⟨W, S, ρ, at_, h⟩ => by
    unfold wp at h
    split at h
    · rename_i d e
      obtain ⟨z, h1, v, h2, h3⟩ := at_.ev.at_ i _ e
      subst h2
      refine ⟨v, h1, ?_⟩
      rw [← at_.h]
      exact h.now hm at_.w h3
    · exact h.elim
theorem r_bor (i : Nat) {x : Str} (hN : X.N[i]? = some x) (hv : Vis X.env.scope x) (hd : (x == ("__debug__" : Str)) = false) (hcd : (x == ("__classdict__" : Str)) = false) : PE X (.Name x pos) (tE (sur X) W0 R .bo (.bor i)) :=
  PE.imp (pe_var hN hv hd hcd) fun σ H Q ⟨W, S, ρ, at_, h⟩ => by
    unfold wp at h
    split at h
    · rename_i d e
      obtain ⟨z, h1, v, h2, h3⟩ := at_.ev.at_ i _ e
      subst h2
      refine ⟨v, h1, ?_⟩
      rw [← at_.h]
      exact h.now (.inr rfl) at_.w h3
    · rename_i ds e
      obtain ⟨z, h1, l, h2, ⟨vs, o1, o2⟩, o3, o4, o5⟩ := at_.ev.at_ i _ e
      subst h2
      refine ⟨.ref l, h1, ?_⟩
      rw [← at_.h]
      exact h (.ref l) W at_.w (Ext.refl W) (.inr ⟨ds, rfl, l, vs, rfl, o1, o2, o3, o4⟩)
    · exact h.elim
def litOk : Const → Bool
  | .none => true
  | .bool _ => true
  | .int _ => true
  | .str s => decide (s.length ≤ sizeLine)
  | _ => false
theorem r_con {k : Const} {j : Nat} (hk : litOk k = true) {m : Md} : PE X (.Constant k j pos) (tE (sur X) W0 R m (.con k)) := by
  cases k with
  | none => exact PE.imp pe_non fun σ H Q ⟨W, S, ρ, at_, h⟩ => by rw [← at_.h]; exact wish.flat at_.w (show wish _ m W S .non Q from h) .non fun ds z => nomatch z
  | bool b => exact PE.imp pe_bl fun σ H Q ⟨W, S, ρ, at_, h⟩ => by rw [← at_.h]; exact wish.flat at_.w (show wish _ m W S (.bl b) Q from h) (.bl b) fun ds z => nomatch z
  | int i => exact PE.imp pe_int fun σ H Q ⟨W, S, ρ, at_, h⟩ => by rw [← at_.h]; exact wish.flat at_.w (show wish _ m W S (.int i) Q from h) (.int i) fun ds z => nomatch z
  | str x => exact PE.imp pe_str fun σ H Q ⟨W, S, ρ, at_, h⟩ => by rw [← at_.h]; exact wish.flat at_.w (show wish _ m W S (.str x) Q from h) (.str x (of_decide_eq_true hk)) fun ds z => nomatch z
  | _ => cases hk
/-- a constant of the module -/
def GloOk (G : Sur) (x : Str) (d : Dt) : Prop := ∃ u v, G.mg x = some u ∧ RelV v u ∧ ∀ W, Rep G.K W v d
theorem r_glo {x : Str} {d : Dt} (hg : Gl X x) (hx : GloOk (sur X) x d) (hd : (x == ("__debug__" : Str)) = false) {m : Md} (hm : m = .sh ∨ m = .bo) : PE X (.Name x pos) (tE (sur X) W0 R m (.glo x d)) := by
  obtain ⟨u, v, h1, h2, h3⟩ := hx
  exact PE.imp (pe_glob hg h1 h2 hd) fun σ H Q ⟨W, S, ρ, at_, h⟩ => by rw [← at_.h]; exact wish.now hm at_.w (show wish _ m W S d Q from h) (h3 W)

/-! ### displays -/
theorem r_nil : PA X [] (tL (sur X) W0 R .nil) := PA.imp pa_nil fun σ H Q ⟨W, S, ρ, at_, h⟩ => by
  rw [← at_.h]
  exact (show ∀ zs W', Wd (sur X) W' S → Ext W W' → RepL X.K W' zs [] → Q zs W'.h from h) [] W at_.w (Ext.refl W) .nil
def noStar : Expr → Bool
  | .Starred .. => false
  | _ => true
theorem star_plain {e : Expr} {es : List Expr} {env : Env} (h : noStar e = true) : starEach (e :: es) env = (false, eval e env) :: starEach es env := by
  cases e <;> first | rfl | cases h
theorem star_none {pos : Pos} {env : Env} : ∀ {es : List Expr}, es.all noStar = true → (backTo pos (starEach es env)).any (·.1) = false
  | [], _ => rfl
  | e :: es, h => by
    rw [List.all_cons, Bool.and_eq_true] at h
    rw [star_plain h.1]
    show (false || (backTo pos (starEach es env)).any (·.1)) = false
    rw [star_none h.2]
    rfl
theorem r_cons {es : List Expr} (hn : noStar a = true) (ha : PE X a (tE (sur X) W0 R .sh A)) (hb : PA X es (tL (sur X) W0 R B)) : PA X (a :: es) (tL (sur X) W0 R (.cons A B)) :=
  PA.imp (pa_cons ha hb (star_plain hn)) fun σ H Q ⟨W, S, ρ, at_, h⟩ => one (m := .sh) at_ h fun x d W1 S1 a1 e1 r1 q1 => ⟨W1, S1, ρ, a1, wp_mono _ _ _ _ _ _ _ (fun _ _ z => z) (fun r S2 q2 => by
    cases r with
    | tup ds => exact fun zs W2 w2 e2 r2 => q2 (x :: zs) W2 w2 (e1.trans e2) (.cons (Rep.mono e2 r1) r2)
    | _ => exact q2) q1⟩
theorem list_read {G : Sur} {σ : L2.St} {H : Hp} {W : Wl} {S : Store} {ρ : Ev} {J : List Dt → Store → Prop} {Q : List V → Hp → Prop} (at_ : At G W0 σ H W S ρ) (h : wp A R ρ S fun r S1 => match r with | .tup ds => J ds S1 | _ => False)
    (f : ∀ zs ds W1 S1, At G W0 σ W1.h W1 S1 ρ → Ext W W1 → RepL G.K W1 zs ds → J ds S1 → Q zs W1.h) : tL G W0 R A σ H Q :=
  ⟨W, S, ρ, at_, wp_mono _ _ _ _ _ _ _ (fun _ _ z => z) (fun r S1 q => by
    cases r with
    | tup ds => exact fun zs W1 w1 e1 r1 => f zs ds W1 S1 (at_.on w1 e1) e1 r1 q
    | _ => exact q) h⟩
theorem pe_tupF {es : List Expr} {t : TA} {x1 : Nat} (h : PA X es t) : PE X (.Tuple es x1 pos) (fun σ H Q => t σ H fun xs H1 => xs.length ≤ sizeLine ∧ ∀ p ob, H1 p = none → ob.dict = none → Q (.ref p) (upd H1 p (.frz ob (.tup xs)))) := by
  constructor
  intro pins s σ H Q I hq
  refine wpAny_Tuple_spliced (thn (h.run pos pins s σ H _ I hq) fun us s1 ⟨xs, H1, I1, r, z, q⟩ => ⟨by rw [← r.length]; exact z, ?_⟩)
  exact ⟨.ref s1.heap.objs.size, _, Inv.tnew I1 r z, rfl, q _ _ (I1.hok.fresh (Nat.le_refl _)) rfl⟩
theorem r_tup {es : List Expr} {x1 : Nat} {m : Md} (h : PA X es (tL (sur X) W0 R A)) : PE X (.Tuple es x1 pos) (tE (sur X) W0 R m (.tup A)) :=
  PE.imp (pe_tupF h) fun σ H Q ⟨W, S, ρ, at_, hw⟩ => list_read at_ hw fun zs ds W1 S1 a1 e1 r1 q => ⟨by rw [r1.length]; exact q.1, fun p ob hp hd => wish.newT a1.w hp hd (wish.on q.2 e1) r1⟩
theorem r_lst {es : List Expr} {m : Md} (h : PA X es (tL (sur X) W0 R A)) : PE X (.List es pos) (tE (sur X) W0 R m (.lst A)) :=
  PE.imp (pe_lst h) fun σ H Q ⟨W, S, ρ, at_, hw⟩ => list_read at_ hw fun zs ds W1 S1 a1 e1 r1 q => ⟨by rw [r1.length]; exact q.1, fun p hp => wish.new a1.w hp (wish.on q.2 e1) r1⟩
theorem r_neg {m : Md} (ha : PE X a (tE (sur X) W0 R .bo A)) : PE X (.UnaryOp .USub a pos) (tE (sur X) W0 R m (.neg A)) :=
  PE.imp (pe_un un_neg ha) fun σ H Q ⟨W, S, ρ, at_, h⟩ => one (m := .bo) at_ h fun x d W1 S1 a1 e1 r1 q => by
    cases d with
    | int i =>
      cases RepB.int r1
      exact ⟨i, rfl, (wish.on q e1).flat a1.w (.int _) fun ds z => nomatch z⟩
    | _ => exact q.elim

/-! ### and, or, not, if -/
variable {rest : List Expr}
theorem r_and {m : Md} (ha : PE X a (tE (sur X) W0 R m A)) (hm : m = .sh ∨ m = .bo) (hb : PE X (.BoolOp .And (b :: rest) pos) (tE (sur X) W0 R m B)) : PE X (.BoolOp .And (a :: b :: rest) pos) (tE (sur X) W0 R m (.and A B)) :=
  PE.imp (pe_andT ha hb) fun σ H Q ⟨W, S, ρ, at_, h⟩ => one at_ h fun x d W1 S1 a1 e1 r1 q => by
    obtain ⟨k, hk, q⟩ := opt_eq q
    refine ⟨k, tru_rep a1.w.sub (by rcases hm with rfl | rfl; exact .inl r1; exact r1) hk, ?_⟩
    cases k with
    | true => rw [if_pos rfl]; exact ⟨W1, S1, ρ, a1, wp_mono _ _ _ _ _ _ _ (fun _ _ z => z) (fun d S2 q2 => wish.on q2 e1) q⟩
    | false => rw [if_neg Bool.false_ne_true]; exact q x W1 a1.w e1 r1
theorem r_or {m : Md} (ha : PE X a (tE (sur X) W0 R m A)) (hm : m = .sh ∨ m = .bo) (hb : PE X (.BoolOp .Or (b :: rest) pos) (tE (sur X) W0 R m B)) : PE X (.BoolOp .Or (a :: b :: rest) pos) (tE (sur X) W0 R m (.or A B)) :=
  PE.imp (pe_orT ha hb) fun σ H Q ⟨W, S, ρ, at_, h⟩ => one at_ h fun x d W1 S1 a1 e1 r1 q => by
    obtain ⟨k, hk, q⟩ := opt_eq q
    refine ⟨k, tru_rep a1.w.sub (by rcases hm with rfl | rfl; exact .inl r1; exact r1) hk, ?_⟩
    cases k with
    | true => rw [if_pos rfl]; exact q x W1 a1.w e1 r1
    | false => rw [if_neg Bool.false_ne_true]; exact ⟨W1, S1, ρ, a1, wp_mono _ _ _ _ _ _ _ (fun _ _ z => z) (fun d S2 q2 => wish.on q2 e1) q⟩
theorem r_one {op : BoolOp} {m : Md} (ha : PE X a (tE (sur X) W0 R m A)) : PE X (.BoolOp op [a] pos) (tE (sur X) W0 R m A) := pe_one ha
theorem r_not {m : Md} (ha : PE X a (tE (sur X) W0 R .bo A)) : PE X (.UnaryOp .Not a pos) (tE (sur X) W0 R m (.not A)) :=
  PE.imp (pe_notT ha) fun σ H Q ⟨W, S, ρ, at_, h⟩ => one (m := .bo) at_ h fun x d W1 S1 a1 e1 r1 q => by
    obtain ⟨k, hk, q⟩ := opt_eq q
    exact ⟨k, tru_rep a1.w.sub r1 hk, (wish.on q e1).flat a1.w (.bl _) fun ds z => nomatch z⟩
theorem r_ite {m : Md} (hc : PT X c (tT (sur X) W0 R C)) (ha : PE X a (tE (sur X) W0 R m A)) (hb : PE X b (tE (sur X) W0 R m B)) : PE X (.IfExp c a b pos) (tE (sur X) W0 R m (.ite C A B)) :=
  PE.imp (pe_ifExp hc ha hb) fun σ H Q ⟨W, S, ρ, at_, h⟩ => ⟨W, S, ρ, at_, wp_mono _ _ _ _ _ _ _ (fun _ _ z => z) (fun d S1 q => opt_mono (fun k q W1 w1 e1 => by
    cases k with
    | true => rw [if_pos rfl]; exact ⟨W1, S1, ρ, at_.on w1 e1, wp_mono _ _ _ _ _ _ _ (fun _ _ z => z) (fun d S2 q2 => wish.on q2 e1) q⟩
    | false => rw [if_neg Bool.false_ne_true]; exact ⟨W1, S1, ρ, at_.on w1 e1, wp_mono _ _ _ _ _ _ _ (fun _ _ z => z) (fun d S2 q2 => wish.on q2 e1) q⟩) q) h⟩
/-! .. as tests -/
theorem tT_on {G : Sur} {E : Ex} {σ : L2.St} {W W1 : Wl} {S1 : Store} {ρ : Ev} {Q : Bool → Hp → Prop} (a1 : At G W0 σ W1.h W1 S1 ρ) (e1 : Ext W W1) (h : wp E R ρ S1 fun d S' => opt (tru d) fun k => ∀ W', Wd G W' S' → Ext W W' → Q k W'.h) : tT G W0 R E σ W1.h Q :=
  ⟨W1, S1, ρ, a1, wp_mono _ _ _ _ _ _ _ (fun _ _ z => z) (fun d S2 q => opt_mono (fun k q W2 w2 e2 => q W2 w2 (e1.trans e2)) q) h⟩
theorem t_val (ha : PE X a (tE (sur X) W0 R .bo A)) (he : ∀ whole, isTrue a X.env whole = (do let v ← whole; standAt a.pos; holding [v] (truthy v))) : PT X a (tT (sur X) W0 R A) :=
  PT.imp (pt_truth ha he) fun σ H Q ⟨W, S, ρ, at_, h⟩ => one (m := .bo) at_ h fun x d W1 S1 a1 e1 r1 q => by
    obtain ⟨k, hk, q⟩ := opt_eq q
    exact ⟨k, tru_rep a1.w.sub r1 hk, q W1 a1.w e1⟩
theorem t_not (ha : PT X a (tT (sur X) W0 R A)) : PT X (.UnaryOp .Not a pos) (tT (sur X) W0 R (.not A)) :=
  PT.imp (pt_not ha) fun σ H Q ⟨W, S, ρ, at_, h⟩ => ⟨W, S, ρ, at_, wp_mono _ _ _ _ _ _ _ (fun _ _ z => z) (fun d S1 q => opt_mono (fun k q => q) q) h⟩
/-- a test in a chain of and, or -/
theorem tw_and (ha : PT X a (tT (sur X) W0 R A)) (hb : PW X (.BoolOp .And (b :: rest) pos) (tT (sur X) W0 R B)) : PW X (.BoolOp .And (a :: b :: rest) pos) (tT (sur X) W0 R (.and A B)) :=
  ⟨fun wh pins s σ H Q I h => (pw_and ha hb).run wh pins s σ H Q I (by
    obtain ⟨W, S, ρ, at_, h⟩ := h
    refine ⟨W, S, ρ, at_, wp_mono _ _ _ _ _ _ _ (fun _ _ z => z) (fun d S1 q => ?_) h⟩
    cases hk : tru d with
    | none => rw [hk] at q; exact q.elim
    | some k =>
      rw [hk] at q
      intro W1 w1 e1
      cases k with
      | true => rw [if_pos rfl]; exact tT_on (at_.on w1 e1) e1 q
      | false =>
        rw [if_neg Bool.false_ne_true]
        have q' : opt (tru d) fun k => ∀ W', Wd (sur X) W' S1 → Ext W W' → Q k W'.h := q
        rw [hk] at q'
        exact q' W1 w1 e1)⟩
theorem tw_or (ha : PT X a (tT (sur X) W0 R A)) (hb : PW X (.BoolOp .Or (b :: rest) pos) (tT (sur X) W0 R B)) : PW X (.BoolOp .Or (a :: b :: rest) pos) (tT (sur X) W0 R (.or A B)) :=
  ⟨fun wh pins s σ H Q I h => (pw_or ha hb).run wh pins s σ H Q I (by
    obtain ⟨W, S, ρ, at_, h⟩ := h
    refine ⟨W, S, ρ, at_, wp_mono _ _ _ _ _ _ _ (fun _ _ z => z) (fun d S1 q => ?_) h⟩
    cases hk : tru d with
    | none => rw [hk] at q; exact q.elim
    | some k =>
      rw [hk] at q
      intro W1 w1 e1
      cases k with
      | false => rw [if_neg Bool.false_ne_true]; exact tT_on (at_.on w1 e1) e1 q
      | true =>
        rw [if_pos rfl]
        have q' : opt (tru d) fun k => ∀ W', Wd (sur X) W' S1 → Ext W W' → Q k W'.h := q
        rw [hk] at q'
        exact q' W1 w1 e1)⟩
theorem tw_and1 (ha : PT X a (tT (sur X) W0 R A)) : PW X (.BoolOp .And [a] pos) (tT (sur X) W0 R A) := pw_and1 ha
theorem tw_or1 (ha : PT X a (tT (sur X) W0 R A)) : PW X (.BoolOp .Or [a] pos) (tT (sur X) W0 R A) := pw_or1 ha
end
end Vr

/-! Places, slices, calls, methods. -/
namespace Vr
open PySem PySem.Spec PyProof.Rows L2

section
variable {X : Cx} {W0 : Wl} {R : XR} {a b c e : Expr} {A B C : Ex} {pos apos : Pos}
def notSlice : Expr → Bool
  | .Slice .. => false
  | _ => true
theorem plain_ix (h : notSlice b = true) : PlainIx b := by
  intro o i
  cases b <;> first | rfl | cases h
theorem r_idx {m : Md} (hm : m = .sh ∨ m = .bo) (hs : notSlice b = true) (ha : PE X a (tE (sur X) W0 R .bo A)) (hb : PE X b (tE (sur X) W0 R .bo B)) : PE X (.Subscript a b pos) (tE (sur X) W0 R m (.idx A B)) :=
  PE.imp (pe_ix (ix_D m hm) ha hb (plain_ix hs)) fun σ H Q ⟨W, S, ρ, at_, h⟩ => two at_ h fun x y d1 d2 W2 S2 a2 e r1 r2 q => ⟨W2, S2, d1, d2, rfl, a2.w, r1, r2, opt_mono (fun d z => wish.on z e) q⟩
/-- a deck's number -/
theorem r_hix (i j : Nat) {x : Str} {p p2 : Pos} {n2 : Nat} (hN : X.N[i]? = some x) (hv : Vis X.env.scope x) (hd : (x == ("__debug__" : Str)) = false) (hcd : (x == ("__classdict__" : Str)) = false) {m : Md} :
    PE X (.Subscript (.Name x p) (.Constant (.int (j : Int)) n2 p2) pos) (tE (sur X) W0 R m (.hix i j)) :=
  PE.imp (pe_ix ix_list (pe_var hN hv hd hcd) pe_int (plain_ix rfl)) fun σ H Q ⟨W, S, ρ, at_, h⟩ => by
    unfold wp at h
    split at h
    · rename_i k e
      obtain ⟨z, h1, v, h2, h3⟩ := at_.ev.at_ i _ e
      subst h2
      split at h
      · rename_i n es
        cases h3 with
        | hdl ha =>
          rename_i a
          obtain ⟨a', b1, b2, x', y', c', b3, b4, b5, b6, b7⟩ := at_.w.res k _ es
          rw [ha] at b1
          cases b1
          have key : ∀ z : Int, wish (sur X) m W S (.int z) Q → Q (.int z) H := fun z q => by
            rw [← at_.h]
            exact q.flat at_.w (.int z) fun ds q => nomatch q
          have b3' : H a = some (.lst [.int x', .int y', .int c']) := by rw [← at_.h]; exact b3
          unfold deckRd at h
          refine ⟨_, h1, a, [.int x', .int y', .int c'], j, ?_⟩
          split at h
          · exact ⟨.int x', rfl, rfl, SqL.of b3', rfl, key _ (h x')⟩
          · exact ⟨.int y', rfl, rfl, SqL.of b3', rfl, key _ (h y' b4 b5)⟩
          · exact ⟨.int c', rfl, rfl, SqL.of b3', rfl, key _ (h c' b6 (by exact_mod_cast b7))⟩
          · exact h.elim
      · exact h.elim
    · exact h.elim
/-- an end of a slice -/
def tO (G : Sur) (W0 : Wl) (R : XR) (E : Ex) : TO := fun σ H Q => ∃ W S ρ, At G W0 σ H W S ρ ∧ wp E R ρ S fun d S' => opt (endD E.no d) fun l => ∀ W', Wd G W' S' → Ext W W' → Q l W'.h
theorem PO.imp {o : Option Expr} {t t' : TO} (h : PO X o t) (f : ∀ σ H Q, t' σ H Q → t σ H Q) : PO X o t' := ⟨fun pins s σ H Q I w => h.run pins s σ H Q I (f σ H Q w)⟩
theorem o_none : PO X none (tO (sur X) W0 R .nil) := PO.imp po_none fun σ H Q ⟨W, S, ρ, at_, h⟩ => by
  rw [← at_.h]
  exact (show ∀ W', Wd (sur X) W' S → Ext W W' → Q none W'.h from h) W at_.w (Ext.refl W)
theorem o_some (ha : PE X a (tE (sur X) W0 R .bo A)) (hi : A.no = false) : PO X (some a) (tO (sur X) W0 R A) :=
  PO.imp (po_some ha) fun σ H Q ⟨W, S, ρ, at_, h⟩ => one (m := .bo) at_ h fun x d W1 S1 a1 e1 r1 q => by
    rw [hi] at q
    obtain ⟨l, hl, q⟩ := opt_eq q
    cases d with
    | int i =>
      cases RepB.int r1
      cases hl
      exact ⟨i, rfl, q W1 a1.w e1⟩
    | _ => cases hl
theorem r_slc {lo hi : Option Expr} {p2 : Pos} {m : Md} (ha : PE X a (tE (sur X) W0 R .bo A)) (hl : PO X lo (tO (sur X) W0 R B)) (hh : PO X hi (tO (sur X) W0 R C)) : PE X (.Subscript a (.Slice lo hi none p2) pos) (tE (sur X) W0 R m (.slc A B C)) :=
  PE.imp (pe_slice (sl_D m) ha hl hh) fun σ H Q ⟨W, S, ρ, at_, h⟩ => by
    exact one (m := .bo) at_ h fun x d W1 S1 a1 e1 r1 q1 => ⟨W1, S1, ρ, a1, wp_mono _ _ _ _ _ _ _ (fun _ _ z => z) (fun l S2 q2 => opt_mono (fun l' q2 W2 w2 e2 =>
      ⟨W2, S2, ρ, a1.on w2 e2, wp_mono _ _ _ _ _ _ _ (fun _ _ z => z) (fun u S3 q3 => opt_mono (fun u' q4 W3 w3 e3 => ⟨W3, S3, d, rfl, w3, RepB.mono (e2.trans e3) r1, opt_mono (fun dd z => wish.on z (e1.trans (e2.trans e3))) q4⟩) q3) q2⟩) q2) q1⟩

/-! ### calls of defs -/
theorem call_read {G : Sur} {F : Fn} {m : Md} {σ : L2.St} {W W1 : Wl} {S1 : Store} {ρ : Ev} {ds : List Dt} {zs : List V} {Q : VK} (hm : m = .ow → F.own = true) (a1 : At G W0 σ W1.h W1 S1 ρ) (e1 : Ext W W1) (r1 : RepL G.K W1 zs ds)
    (q : F.run ds S1 (fun d S' => wish G m W S' d Q) R) : spF G F zs W1.h Q (EXr G W0 R) := by
  refine ⟨W1, S1, ds, rfl, a1.w, r1, F.mono _ _ _ _ _ _ (fun d S' q => ?_) (fun x S' q cls dd W' w' e' rx => ?_) q⟩
  · have q' := wish.on q e1
    cases ho : F.own with
    | true => exact q'.share
    | false => exact q'.sh fun z => Bool.false_ne_true (ho.symm.trans (hm z))
  · exact ⟨x, S', W', rfl, w', a1.e0.trans e', rx, q⟩
theorem r_call {k : Nat} {f : Str} {F : Fn} {m : Md} {es : List Expr} {p : Pos} (hf : FnFact (sur X) k f F) (hr : Room k X.A) (hg : Gl X f) (hp : Passes (L2.CX X.prog X.w) X (EXr (sur X) W0 R)) (hm : m = .ow → F.own = true) (hdb : (f == ("__debug__" : Str)) = false)
    (hn : noStar e = true) (hns : es.all noStar = true) (ha : PA X (e :: es) (tL (sur X) W0 R A)) : PE X (.Call (.Name f p) (e :: es) [] pos) (tE (sur X) W0 R m (.call f F A)) := by
  obtain ⟨a, fd, ps, h1, h3, h4, h5⟩ := hf.ex
  exact PE.imp (pe_call (dvs := []) (E := EXr (sur X) W0 R) h3 hr hg h1 h4 h5 .nil hp ha hdb (star_plain hn) (star_none hns)) fun σ H Q ⟨W, S, ρ, at_, h⟩ => list_read at_ h fun zs ds W1 S1 a1 e1 r1 q => by
    rw [List.append_nil]
    exact call_read hm a1 e1 r1 q
theorem r_call0 {k : Nat} {f : Str} {F : Fn} {m : Md} {p : Pos} (hf : FnFact (sur X) k f F) (hr : Room k X.A) (hg : Gl X f) (hp : Passes (L2.CX X.prog X.w) X (EXr (sur X) W0 R)) (hm : m = .ow → F.own = true) (hdb : (f == ("__debug__" : Str)) = false) :
    PE X (.Call (.Name f p) [] [] pos) (tE (sur X) W0 R m (.call f F .nil)) := by
  obtain ⟨a, fd, ps, h1, h3, h4, h5⟩ := hf.ex
  refine PE.imp (pe_call0 (dvs := []) (E := EXr (sur X) W0 R) h3 hr hg h1 h4 h5 .nil hp hdb) fun σ H Q ⟨W, S, ρ, at_, h⟩ => ?_
  show spF (sur X) F ([] ++ []) H Q (EXr (sur X) W0 R)
  rw [← at_.h]
  exact call_read hm (by rw [at_.h] at *; exact at_) (Ext.refl W) .nil h

/-! ### calls of built-ins -/
def bltN : Blt → Str
  | .len => "len"
  | .all => "all"
  | .any => "any"
  | .tup => "tuple"
  | .lst => "list"
  | .int => "int"
theorem bltN_ok (b : Blt) : bltN b ≠ "__name__" ∧ (bltN b == ("__debug__" : Str)) = false ∧ bootBuiltins (bltN b) = some (bltV b) := by
  cases b <;> exact ⟨by decide +kernel, by decide +kernel, by decide +kernel⟩
theorem blt_read {G : Sur} {b : Blt} {m : Md} {σ : L2.St} {H : Hp} {W : Wl} {S : Store} {ρ : Ev} {Q : VK} (at_ : At G W0 σ H W S ρ) (h : wp A R ρ S fun x S1 => opt (bltD b x) fun d => wish G m W S1 d Q) : tCB (rC G (bltD b) m) (tCons (tE G W0 R .bo A) tNil) σ H Q :=
  one (m := .bo) at_ h fun x d W1 S1 a1 e1 r1 q => ⟨W1, S1, x, d, rfl, rfl, a1.w, r1, opt_mono (fun d z => wish.on z e1) q⟩
theorem r_blt (bb : Blt) {m : Md} {p : Pos} (hc : X.calm = true) (hg : Gl X (bltN bb)) (hx : X.mg (bltN bb) = none) (hn : noStar a = true) (ha : PE X a (tE (sur X) W0 R .bo A)) : PE X (.Call (.Name (bltN bb) p) [a] [] pos) (tE (sur X) W0 R m (.blt bb A)) := by
  obtain ⟨h1, h2, h3⟩ := bltN_ok bb
  have call : PE X (.Call (.Name (bltN bb) p) [a] [] pos) (tCB (rC (sur X) (bltD bb) m) (tCons (tE (sur X) W0 R .bo A) tNil)) := by
    have hp : (backTo pos (starEach [] X.env)).any (·.1) = false := rfl
    cases bb with
    | len => exact pe_callB (call_blt hc .len m) hg hx h3 (pa_cons ha pa_nil (star_plain hn)) h1 h2 (star_plain hn) hp
    | all => exact pe_callB (call_blt hc .all m) hg hx h3 (pa_cons ha pa_nil (star_plain hn)) h1 h2 (star_plain hn) hp
    | any => exact pe_callB (call_blt hc .any m) hg hx h3 (pa_cons ha pa_nil (star_plain hn)) h1 h2 (star_plain hn) hp
    | tup => exact pe_callTy (call_blt hc .tup m) hg hx h3 (pa_cons ha pa_nil (star_plain hn)) h1 h2 (star_plain hn) hp
    | lst => exact pe_callTy (call_blt hc .lst m) hg hx h3 (pa_cons ha pa_nil (star_plain hn)) h1 h2 (star_plain hn) hp
    | int => exact pe_callTy (call_blt hc .int m) hg hx h3 (pa_cons ha pa_nil (star_plain hn)) h1 h2 (star_plain hn) hp
  exact PE.imp call fun σ H Q ⟨W, S, ρ, at_, h⟩ => blt_read at_ h
/-! isinstance -/
theorem kinds_boot : ∀ t ∈ kinds, bootBuiltins (PySem.Str.ofString t) = some (.type t) ∧ (PySem.Str.ofString t ≠ "__name__") ∧ ((PySem.Str.ofString t == ("__debug__" : Str)) = false) := by decide +kernel
theorem isi_one {t : String} {d : Dt} {k : Bool} (ht : t ∈ kinds) (e : isiD [t] d = some k) : ∃ u, tyD d = some u ∧ kitB u t = some k := by
  unfold isiD at e
  cases q : tyD d with
  | none => rw [q] at e; cases e
  | some u =>
    rw [q] at e
    refine ⟨u, rfl, ?_⟩
    rw [kit_all u (tyD_mem q) t ht]
    have e2 : ([t].contains u || (u == "bool" && [t].contains "int")) = k := Option.some.inj e
    rw [← e2]
    simp only [List.contains_cons, List.contains_nil, Bool.or_false]
    congr 3
    exact Bool.eq_iff_iff.mpr ⟨fun z => by rw [beq_iff_eq] at z ⊢; exact z.symm, fun z => by rw [beq_iff_eq] at z ⊢; exact z.symm⟩
theorem r_isi1 {t : String} {m : Md} {p q : Pos} (ht : t ∈ kinds) (hg : Gl X "isinstance") (hx : X.mg "isinstance" = none) (hg2 : Gl X (PySem.Str.ofString t)) (hx2 : X.mg (PySem.Str.ofString t) = none) (hn : noStar a = true) (ha : PE X a (tE (sur X) W0 R .bo A)) :
    PE X (.Call (.Name "isinstance" p) [a, .Name (PySem.Str.ofString t) q] [] pos) (tE (sur X) W0 R m (.isi [t] A)) := by
  obtain ⟨b1, b2, b3⟩ := kinds_boot t ht
  have hT : PE X (.Name (PySem.Str.ofString t) q) (tC (.ty t)) := pe_bltn hg2 hx2 b1 rfl b2 b3
  exact PE.imp (pe_callB call_isi hg hx boot_isinstance (pa_cons ha (pa_cons hT pa_nil (star_plain rfl)) (star_plain hn)) (by decide) (by decide) (star_plain hn) rfl) fun σ H Q ⟨W, S, ρ, at_, h⟩ =>
    one (m := .bo) at_ h fun x d W1 S1 a1 e1 r1 q1 => by
      obtain ⟨k, hk, q1⟩ := opt_eq q1
      obtain ⟨u, hu, hk⟩ := isi_one ht hk
      exact ⟨x, .ty t, .type u, .type t, k, rfl, .ty t, ty_rep a1.w.sub r1 hu, kit_ty hk, (wish.on q1 e1).flat a1.w (.bl _) fun ds z => nomatch z⟩
/-- the names of several types -/
def tysA : List String → TA
  | [] => tNil
  | t :: ts => tCons (tC (.ty t)) (tysA ts)
theorem tysA_pa : ∀ (ts : List String) (es : List Expr), (∀ t ∈ ts, t ∈ kinds ∧ Gl X (PySem.Str.ofString t) ∧ X.mg (PySem.Str.ofString t) = none) → (es.map fun e => match e with | .Name x _ => some x | _ => none) = ts.map (fun t => some (PySem.Str.ofString t)) → PA X es (tysA ts)
  | [], [], _, _ => pa_nil
  | t :: ts, .Name x q :: es, h, he => by
    rw [List.map_cons, List.map_cons] at he
    injection he with h1 h2
    have e1 : x = PySem.Str.ofString t := Option.some.inj h1
    subst e1
    obtain ⟨k1, k2, k3⟩ := h t List.mem_cons_self
    obtain ⟨b1, b2, b3⟩ := kinds_boot t k1
    exact pa_cons (pe_bltn k2 k3 b1 rfl b2 b3) (tysA_pa ts es (fun u hu => h u (List.mem_cons_of_mem _ hu)) h2) (star_plain rfl)
  | [], _ :: _, _, he => by cases he
  | _ :: _, [], _, he => by cases he
  | t :: ts, e :: es, h, he => by
    rw [List.map_cons, List.map_cons] at he
    injection he with h1 h2
    cases e with
    | Name x q =>
      have e1 : x = PySem.Str.ofString t := Option.some.inj h1
      subst e1
      obtain ⟨k1, k2, k3⟩ := h t List.mem_cons_self
      obtain ⟨b1, b2, b3⟩ := kinds_boot t k1
      exact pa_cons (pe_bltn k2 k3 b1 rfl b2 b3) (tysA_pa ts es (fun u hu => h u (List.mem_cons_of_mem _ hu)) h2) (star_plain rfl)
    | _ => cases h1
theorem tysA_read : ∀ (ts : List String) (σ : L2.St) (H : Hp) (Q : List V → Hp → Prop), Q (ts.map .ty) H → tysA ts σ H Q
  | [], _, _, _, h => h
  | t :: ts, σ, H, Q, h => tysA_read ts σ H (fun xs H2 => Q (.ty t :: xs) H2) h
theorem tysA_cls : ∀ ts : List String, Paired ClsV (ts.map V.ty) (ts.map Value.type)
  | [] => .nil
  | t :: ts => .cons (.ty t) (tysA_cls ts)
theorem r_isiT {ts : List String} {m : Md} {p q : Pos} {es : List Expr} {x1 : Nat} (ht : ∀ t ∈ ts, t ∈ kinds ∧ Gl X (PySem.Str.ofString t) ∧ X.mg (PySem.Str.ofString t) = none) (hl : ts.length ≤ sizeLine) (hg : Gl X "isinstance") (hx : X.mg "isinstance" = none)
    (he : (es.map fun e => match e with | .Name x _ => some x | _ => none) = ts.map (fun t => some (PySem.Str.ofString t))) (hn : noStar a = true) (ha : PE X a (tE (sur X) W0 R .bo A)) :
    PE X (.Call (.Name "isinstance" p) [a, .Tuple es x1 q] [] pos) (tE (sur X) W0 R m (.isi ts A)) :=
  PE.imp (pe_callB call_isiT hg hx boot_isinstance (pa_cons ha (pa_cons (pe_tup (tysA_pa ts es ht he)) pa_nil (star_plain rfl)) (star_plain hn)) (by decide) (by decide) (star_plain hn) rfl) fun σ H Q ⟨W, S, ρ, at_, h⟩ =>
    one (m := .bo) at_ h fun x d W1 S1 a1 e1 r1 q1 => by
      refine tysA_read ts σ W1.h _ ⟨by rw [List.length_map]; exact hl, fun tp htp => ?_⟩
      obtain ⟨k, hk, q1⟩ := opt_eq q1
      unfold isiD at hk
      cases hu : tyD d with
      | none => rw [hu] at hk; cases hk
      | some u =>
        rw [hu] at hk
        have e2 := a1.w.ext_own (o := .tup (ts.map V.ty)) htp
        have ek : (ts.contains u || (u == "bool" && ts.contains "int")) = k := Option.some.inj hk
        refine ⟨x, tp, ts.map V.ty, .type u, ts.map Value.type, k, rfl, upd_same, tysA_cls ts, ty_rep (a1.w.own htp).sub (RepB.mono e2 r1) hu, ?_, ?_⟩
        · rw [kit_any (tyD_mem hu) ts fun t z => (ht t z).1, ek]
        · exact wish.flat (W := W1.own tp (.tup (ts.map V.ty))) (a1.w.own htp) (wish.on q1 (e1.trans e2)) (.bl _) fun ds z => nomatch z

/-! ### methods -/
/-- no super() -/
def plainBase : Expr → Bool
  | .Call (.Name id _) [] [] _ => id != "super"
  | _ => true
theorem base_plain {o : Expr} {attr : Str} {env : Env} {whole : Sem Value} (h : plainBase o = true) : attributeBase o attr env whole = whole := by
  unfold attributeBase
  split
  · rename_i id p pos
    have h' : (id != "super") = true := h
    rw [h']
    rfl
  · rfl
theorem recv_kd {m : Mth} {d : Dt} (h : recv m d = true) : ∃ k id, kdD d = some k ∧ mthI m k = some id := by
  cases m <;> cases d <;> first | exact ⟨_, _, rfl, rfl⟩ | cases h
theorem r_mth (hu : X.A.units + 64 < cLine) (mm : Mth) {m : Md} {p : Pos} (ho : plainBase a = true) (hline : (apos.endLine == p.line) = true) (hn : noStar b = true) (ha : PE X a (tE (sur X) W0 R .bo A)) (hb : PE X b (tE (sur X) W0 R .bo B)) :
    PE X (.Call (.Attribute a (mthN mm) apos) [b] [] p) (tE (sur X) W0 R m (.mth mm A B)) := by
  constructor
  intro pins s σ H Q I ⟨W, S, ρ, at_, h⟩
  refine wpAny_Call_method_late (base_plain ho) (by rw [star_plain hn]; rfl) hline rfl (thn (ha.run pins s σ H (fun x H1 => ∃ d W1 S1, W1.h = H1 ∧ At (sur X) W0 σ W1.h W1 S1 ρ ∧ Ext W W1 ∧ RepB X.K W1 x d ∧ recv mm d = true ∧ wp B R ρ S1 fun y S2 => opt (mthD mm d y) fun d => wish (sur X) m W S2 d Q) I
    (one (m := .bo) at_ h fun x d W1 S1 a1 e1 r1 q1 => ⟨d, W1, S1, rfl, a1, e1, r1, q1⟩)) fun v s1 ⟨x, H1, I1, r1, d, W1, S1, eh, a1, e1, rd, hr, q1⟩ => ?_)
  subst eh
  obtain ⟨k, id, hk, hi⟩ := recv_kd hr
  obtain ⟨h1, h2, h3⟩ := mth_slot hi
  obtain ⟨h4, h5⟩ := kd_is I1 a1.w.sub rd r1 hk
  refine ⟨kdT k, id, h1, h2, h3, h4, h5, ?_⟩
  have hA := (pa_cons hb pa_nil (star_plain hn)).run p pins s1 σ W1.h (fun us H2 => ∃ y d2 W2 S2, us = [y] ∧ W2.h = H2 ∧ At (sur X) W0 σ W2.h W2 S2 ρ ∧ Ext W1 W2 ∧ RepB X.K W2 y d2 ∧ opt (mthD mm d d2) fun d => wish (sur X) m W S2 d Q) I1
    (one (m := .bo) a1 q1 fun y d2 W2 S2 a2 e2 r2 q2 => ⟨y, d2, W2, S2, rfl, rfl, a2, e2, r2, q2⟩)
  rw [star_plain hn] at hA ⊢
  refine Calls.callWith_builtin rfl (Calls.evalArgs_plain (thn hA fun us s2 ⟨vs, H2, I2, r2, y, d2, W2, S2, ev, eh, a2, e2, rd2, q2⟩ => ?_))
  subst ev
  subst eh
  obtain ⟨u, rfl, ru⟩ := vals1 r2
  exact mt_D hu mm k id hi m I2 r1 ru a2.w (RepB.mono e2 rd) rd2 hk (opt_mono (fun dd z => wish.on z (e1.trans e2)) q2)
end
end Vr

/-! Calls whose arguments are read for the call's time alone; sorted(set(..)). -/
namespace Vr
open PySem PySem.Spec PyProof.Rows L2

inductive RepBL (K : PySem.W.Frag) (W : Wl) : List V → List Dt → Prop
  | nil : RepBL K W [] []
  | cons {v : V} {d : Dt} {vs : List V} {ds : List Dt} : RepB K W v d → RepBL K W vs ds → RepBL K W (v :: vs) (d :: ds)
theorem RepBL.mono {K : PySem.W.Frag} {W W' : Wl} (e : Ext W W') : ∀ {ds : List Dt} {vs : List V}, RepBL K W vs ds → RepBL K W' vs ds
  | _, _, .nil => .nil
  | _, _, .cons a b => .cons (RepB.mono e a) (RepBL.mono e b)
mutual
theorem Rep.noad {K : PySem.W.Frag} {W : Wl} : ∀ (n : Nat) (d : Dt) (v : V), okD n d = true → Rep K W v d → Rep K ⟨[], W.f, W.h⟩ v d
  | _, .non, _, _, h => by cases h; exact .non
  | _, .bl b, _, _, h => by cases h; exact .bl b
  | _, .int i, _, _, h => by cases h; exact .int i
  | _, .str x, _, _, h => by cases h with | str _ hl => exact .str x hl
  | 0, .lst ds, _, ok, h => by simp [okD] at ok
  | 0, .tup ds, _, ok, h => by simp [okD] at ok
  | n + 1, .lst ds, _, ok, h => by
    cases h with
    | lst hq ha => exact .lst hq (RepL.noad n ds _ ok ha)
  | n + 1, .tup ds, _, ok, h => by
    cases h with
    | tup hq ha => exact .tup hq (RepL.noad n ds _ ok ha)
  | 0, .hdl _, _, ok, _ => by simp [okD] at ok
  | n + 1, .hdl _, _, ok, _ => by simp [okD] at ok
  | 0, .dct _, _, ok, _ => by simp [okD] at ok
  | n + 1, .dct _, _, ok, _ => by simp [okD] at ok
theorem RepL.noad {K : PySem.W.Frag} {W : Wl} : ∀ (n : Nat) (ds : List Dt) (vs : List V), ds.all (okD n) = true → RepL K W vs ds → RepL K ⟨[], W.f, W.h⟩ vs ds
  | _, [], _, _, h => by cases h; exact .nil
  | n, d :: ds, _, ok, h => by
    rw [List.all_cons, Bool.and_eq_true] at ok
    cases h with
    | cons h1 h2 => exact .cons (Rep.noad n d _ ok.1 h1) (RepL.noad n ds _ ok.2 h2)
end
/-- what is read for a moment, frozen for that moment -/
theorem freeze_all {K : PySem.W.Frag} {W : Wl} (hs : Same W.f W.h) : ∀ (ds : List Dt) (vs : List V), ds.all plainD = true → RepBL K W vs ds → ∃ f', Same W.f f' ∧ Same f' W.h ∧ RepL K ⟨[], f', W.h⟩ vs ds
  | [], _, _, h => by cases h; exact ⟨W.f, Same.refl _, hs, .nil⟩
  | d :: ds, _, ok, h => by
    rw [List.all_cons, Bool.and_eq_true] at ok
    cases h with
    | cons h1 h2 =>
      obtain ⟨f', e1, e2, r⟩ := freeze_all hs ds _ ok.2 h2
      rcases h1 with h1 | ⟨es, rfl, l, us, rfl, k1, k2, k3, k4⟩
      · exact ⟨f', e1, e2, .cons ((Rep.noad _ _ _ ok.1 h1).grow (W := ⟨[], W.f, W.h⟩) (W' := ⟨[], f', W.h⟩) (List.prefix_refl _) e1) r⟩
      · have g1 : Same f' (upd f' l (.lst us)) := fun a o e => by
          by_cases q : a = l
          · subst q
            have := e2 a o e
            rw [k1] at this
            cases this
            exact upd_same
          · rw [upd_ne q]
            exact e
        have g2 : Same (upd f' l (.lst us)) W.h := fun a o e => by
          by_cases q : a = l
          · subst q
            rw [upd_same] at e
            cases e
            exact k1
          · rw [upd_ne q] at e
            exact e2 a o e
        have ok1 : es.all (okD 11) = true := ok.1
        have r1 : RepL K ⟨[], upd f' l (.lst us), W.h⟩ us es := (RepL.noad _ _ _ ok1 k2).grow (W := ⟨[], W.f, W.h⟩) (W' := ⟨[], upd f' l (.lst us), W.h⟩) (List.prefix_refl _) (Same.trans e1 g1)
        exact ⟨upd f' l (.lst us), e1.trans g1, g2, .cons (.lst (SqL.of upd_same) r1) (r.grow (W := ⟨[], f', W.h⟩) (W' := ⟨[], upd f' l (.lst us), W.h⟩) (List.prefix_refl _) g1)⟩
theorem rep_flat {K : PySem.W.Frag} {W W' : Wl} {z : V} {d : Dt} (h : flatD d = true) (r : Rep K W z d) : Rep K W' z d := by
  cases r with
  | non => exact .non
  | bl b => exact .bl b
  | int i => exact .int i
  | str x hl => exact .str x hl
  | tup _ _ => cases h
  | lst _ _ => cases h
  | hdl _ => cases h
theorem flat_lst {d : Dt} (h : flatD d = true) : ∀ ds, d ≠ .lst ds := fun ds e => by subst e; cases h
theorem callb_read {G : Sur} {F : Fn} {m : Md} {W0 W1 : Wl} {σ : L2.St} {S1 : Store} {ρ : Ev} {ds : List Dt} {d : Dt} {zs : List V} {Q : VK} {E : XK} (a1 : At G W0 σ W1.h W1 S1 ρ) (r1 : RepBL G.K W1 zs ds) (hx : cbD F ds = some d) (q : wish G m W1 S1 d Q) : spF G F zs W1.h Q E := by
  unfold cbD at hx
  split at hx
  · rename_i hp
    obtain ⟨d', h1, h2⟩ : ∃ d', F.ex ds = some d' ∧ (if flatD d' then some d' else none) = some d := by
      cases e : F.ex ds with
      | none => rw [e] at hx; cases hx
      | some d' => rw [e] at hx; exact ⟨d', rfl, hx⟩
    split at h2
    · rename_i hf
      have hdd := Option.some.inj h2
      subst hdd
      obtain ⟨f', g1, g2, r⟩ := freeze_all a1.w.sub ds zs hp r1
      refine ⟨⟨[], f', W1.h⟩, [], ds, rfl, ⟨g2, rfl, List.nodup_nil, fun k r e => by simp at e⟩, r, F.ok _ _ _ _ _ h1 fun z W' w' e' rz => ?_⟩
      have cells : ∀ a o, W1.h a = some o → W'.h a = some o := fun a o e => e'.h a o e (fun q => nomatch q)
      have ex : Ext W1 ⟨W1.ad, W1.f, W'.h⟩ := ⟨List.prefix_refl _, Same.refl _, fun a o e _ => cells a o e, fun a _ e _ => e, fun a q => .inl q, fun a q => by
        obtain ⟨_, o, e⟩ := a1.w.ad_of q
        exact .inl (by show W'.h a ≠ none; rw [cells a o e]; exact fun z => nomatch z)⟩
      have wd : Wd G ⟨W1.ad, W1.f, W'.h⟩ S1 := ⟨fun a o e => cells a o (a1.w.sub a o e), a1.w.len, a1.w.nd, fun k r e => by
        obtain ⟨a, k1, k2, k3⟩ := a1.w.res k r e
        exact ⟨a, k1, k2, k3.mono ex a fun o q => cells a o q⟩⟩
      have rp : Rep G.K W' z d' := by
        cases ho : F.own with
        | true => rw [ho] at rz; exact rz.2 (flat_lst hf)
        | false => rw [ho] at rz; exact rz
      have rp2 : Rep G.K ⟨W1.ad, W1.f, W'.h⟩ z d' := rep_flat hf rp
      refine q z ⟨W1.ad, W1.f, W'.h⟩ wd ex ?_
      cases m with
      | sh => exact rp2
      | bo => exact .inl rp2
      | ow => exact ⟨fun ds' e => absurd e (flat_lst hf ds'), fun _ => rp2⟩
    · cases h2
  · cases hx

def tLb (G : Sur) (W0 : Wl) (R : XR) (E : Ex) : TA := fun σ H Q => ∃ W S ρ, At G W0 σ H W S ρ ∧ wp E R ρ S fun d S' => match d with
  | .tup ds => ∀ zs W', Wd G W' S' → Ext W W' → RepBL G.K W' zs ds → Q zs W'.h
  | _ => False
section
variable {X : Cx} {W0 : Wl} {R : XR} {a : Expr} {A B : Ex} {pos : Pos}
theorem r_nilB : PA X [] (tLb (sur X) W0 R .nil) := PA.imp pa_nil fun σ H Q ⟨W, S, ρ, at_, h⟩ => by
  show Q [] H
  rw [← at_.h]
  exact h [] W at_.w (Ext.refl W) .nil
theorem r_consB {es : List Expr} (hn : noStar a = true) (ha : PE X a (tE (sur X) W0 R .bo A)) (hb : PA X es (tLb (sur X) W0 R B)) : PA X (a :: es) (tLb (sur X) W0 R (.cons A B)) :=
  PA.imp (pa_cons ha hb (star_plain hn)) fun σ H Q ⟨W, S, ρ, at_, h⟩ => one (m := .bo) at_ h fun x d W1 S1 a1 e1 r1 q => by
    refine ⟨W1, S1, ρ, a1, wp_mono _ _ _ _ _ _ _ (fun _ _ z => z) (fun r S2 q2 => ?_) q⟩
    cases r with
    | tup ds => exact fun zs W2 w2 e2 r2 => q2 (x :: zs) W2 w2 (e1.trans e2) (.cons (RepB.mono e2 r1) r2)
    | _ => exact q2.elim
theorem listB_read {G : Sur} {σ : L2.St} {H : Hp} {W : Wl} {S : Store} {ρ : Ev} {J : List Dt → Store → Prop} {Q : List V → Hp → Prop} (at_ : At G W0 σ H W S ρ) (h : wp A R ρ S fun r S1 => match r with | .tup ds => J ds S1 | _ => False)
    (f : ∀ zs ds W1 S1, At G W0 σ W1.h W1 S1 ρ → Ext W W1 → RepBL G.K W1 zs ds → J ds S1 → Q zs W1.h) : tLb G W0 R A σ H Q :=
  ⟨W, S, ρ, at_, wp_mono _ _ _ _ _ _ _ (fun _ _ z => z) (fun r S1 q => by
    cases r with
    | tup ds => exact fun zs W1 w1 e1 r1 => f zs ds W1 S1 (at_.on w1 e1) e1 r1 q
    | _ => exact q.elim) h⟩
theorem r_callb {k : Nat} {f : Str} {F : Fn} {m : Md} {es : List Expr} {p : Pos} (hf : FnFact (sur X) k f F) (hr : Room k X.A) (hg : Gl X f) (hp : Passes (L2.CX X.prog X.w) X (EXr (sur X) W0 R)) (hdb : (f == ("__debug__" : Str)) = false)
    (hn : noStar a = true) (hns : es.all noStar = true) (ha : PA X (a :: es) (tLb (sur X) W0 R A)) : PE X (.Call (.Name f p) (a :: es) [] pos) (tE (sur X) W0 R m (.callb f F A)) := by
  obtain ⟨ad, fd, ps, h1, h3, h4, h5⟩ := hf.ex
  exact PE.imp (pe_call (dvs := []) (E := EXr (sur X) W0 R) h3 hr hg h1 h4 h5 .nil hp ha hdb (star_plain hn) (star_none hns)) fun σ H Q ⟨W, S, ρ, at_, h⟩ => listB_read (J := fun ds S1 => opt (cbD F ds) fun d => wish (sur X) m W S1 d Q) at_ h fun zs ds W1 S1 a1 e1 r1 q => by
    rw [List.append_nil]
    obtain ⟨d, hd, q⟩ := opt_eq q
    exact callb_read a1 r1 hd (wish.on q e1)
theorem strs_len {K : PySem.W.Frag} {W : Wl} : ∀ {ds : List Dt} {vs : List V} {bs : List Str}, RepL K W vs ds → strsOf ds = some bs → ∀ x ∈ bs, x.length ≤ sizeLine
  | _, _, _, .nil, e => by cases e; exact fun _ h => nomatch h
  | _, _, _, .cons (d := d) (ds := ds) h1 h2, e => by
    cases d with
    | str s =>
      cases q : strsOf ds with
      | none => unfold strsOf at e; rw [q] at e; cases e
      | some bs =>
        unfold strsOf at e
        rw [q] at e
        cases e
        intro x hx
        rcases List.mem_cons.mp hx with rfl | hx
        · cases h1 with
          | str _ hl => exact hl
        · exact strs_len h2 q x hx
    | _ => cases e
theorem strs_repL {K : PySem.W.Frag} {W : Wl} : ∀ xs : List Str, (∀ x ∈ xs, x.length ≤ sizeLine) → RepL K W (xs.map V.str) (xs.map Dt.str)
  | [], _ => .nil
  | x :: xs, h => .cons (.str x (h x List.mem_cons_self)) (strs_repL xs fun y hy => h y (List.mem_cons_of_mem _ hy))
theorem r_srs {m : Md} {p p2 q : Pos} (hc : X.calm = true) (hu : X.A.units + 64 < cLine) (hg : Gl X "sorted") (hm : X.mg "sorted" = none) (hg2 : Gl X "set") (hm2 : X.mg "set" = none) (hn : noStar a = true) (ha : PE X a (tE (sur X) W0 R .bo A)) :
    PE X (.Call (.Name "sorted" p) [.Call (.Name "set" p2) [a] [] q] [] pos) (tE (sur X) W0 R m (.srs A)) :=
  PE.imp (pe_srs hc hu hg hm hg2 hm2 ha (star_plain hn)) fun σ H Q ⟨W, S, ρ, at_, h⟩ => one (m := .bo) at_ h fun x d W1 S1 a1 e1 r1 q1 => by
    obtain ⟨d', hd, q1⟩ := opt_eq q1
    cases d with
    | lst ds =>
      obtain ⟨l, vs, rfl, hq, rl⟩ := RepB.seq a1.w.sub r1
      obtain ⟨xs, hx, hd⟩ : ∃ xs, strsOf ds = some xs ∧ (if xs.length ≤ 4000 then some (Dt.lst ((srtS xs).map .str)) else none) = some d' := by
        have hd' : ((strsOf ds).bind fun xs => if xs.length ≤ 4000 then some (Dt.lst ((srtS xs).map .str)) else none) = some d' := hd
        cases e : strsOf ds with
        | none => rw [e] at hd'; cases hd'
        | some xs => rw [e] at hd'; exact ⟨xs, rfl, hd'⟩
      split at hd
      · rename_i hl
        cases hd
        have ev := strs_rep rl hx
        subst ev
        refine ⟨l, xs, rfl, hq, hl, fun p hp => ?_⟩
        exact wish.new a1.w hp (wish.on q1 e1) (strs_repL _ fun y hy => strs_len rl hx y ((srt_mem xs y).mp hy))
      · cases hd
    | _ => cases hd
end
end Vr

/-! xs[::-1] of lists and tuples. -/
namespace Vr
open PySem PySem.Spec PyProof.Rows L2

section
variable {prog : Program} {w : World} {A : Around} {E : Value → Shared → Prop} {s : Shared}
theorem slice_rev {sl : Addr} {vl vu vs : Value} {n : Nat} {Q : Int × Int × Nat → Shared → Prop} (hs : s.heap.IsSliceOf sl vl vu vs) (pl : IsPart vl none) (pu : IsPart vu none) (ps : IsPart vs (some (-1)))
    (h : Q ((n : Int) - 1, -1, n) s) : wpAny (model prog w) A (Builtin.Slice.sliceApplied (.ref sl) (pure (n : Int))) Q E s := by
  obtain ⟨os, hos, hcs, hds⟩ := id hs
  unfold Builtin.Slice.sliceApplied Builtin.Slice.sliceFields
  refine wpAny_bind (wpAny_bind (wpAny_field hos hds (x := vl) rfl (wpAny_bind (wpAny_field hos hds (x := vu) rfl (wpAny_bind (wpAny_field hos hds (x := vs) rfl (wpAny_pure ?_)))))))
  refine wpAny_bind (HT.slicePart_ ps ?_)
  show wpAny _ _ (if ((-1 : Int) == 0) = true then _ else _) _ _ s
  rw [if_neg (by decide)]
  refine wpAny_bind (HT.slicePart_ pl (wpAny_bind (HT.slicePart_ pu (wpAny_bind (wpAny_pure ?_)))))
  show wpAny _ _ (match Builtin.Slice.sliceAdjust none none (-1) (n : Int) with | (lo, hi) => pure (lo, (-1 : Int), Builtin.Slice.slicePlaces lo hi (-1))) _ _ s
  have e1 : Builtin.Slice.sliceAdjust none none (-1) (n : Int) = ((n : Int) - 1, -1) := rfl
  rw [e1]
  have e2 : Builtin.Slice.slicePlaces ((n : Int) - 1) (-1) (-1) = n := by
    unfold Builtin.Slice.slicePlaces
    simp
    try omega
  show wpAny _ _ (pure ((n : Int) - 1, (-1 : Int), Builtin.Slice.slicePlaces ((n : Int) - 1) (-1) (-1))) _ _ s
  rw [e2]
  exact wpAny_pure h
theorem filterMap_some {α β : Type} {f : α → Option β} {g : α → β} : ∀ l : List α, (∀ x ∈ l, f x = some (g x)) → l.filterMap f = l.map g
  | [], _ => rfl
  | x :: l, h => by
    rw [List.filterMap_cons, h x List.mem_cons_self, filterMap_some l fun y hy => h y (List.mem_cons_of_mem _ hy)]
    rfl
theorem pick_rev (xs : Array Value) : ((List.range xs.size).filterMap fun (k : Nat) => xs[((((xs.size : Nat) : Int) - 1) + (k : Int) * (-1)).toNat]?).toArray = xs.toList.reverse.toArray := by
  congr 1
  refine List.ext_getElem? fun i => ?_
  have : (List.range xs.size).filterMap (fun (k : Nat) => xs[((((xs.size : Nat) : Int) - 1) + (k : Int) * (-1)).toNat]?) = (List.range xs.size).map fun k => xs.getD (xs.size - 1 - k) default := by
    refine filterMap_some _ fun k hk => ?_
    have hk' := List.mem_range.mp hk
    have e : ((((xs.size : Nat) : Int) - 1) + (k : Int) * (-1)).toNat = xs.size - 1 - k := by omega
    have h2 : xs.size - 1 - k < xs.size := by omega
    rw [e, Array.getElem?_eq_getElem h2]
    simp [Array.getD, h2]
  rw [this]
  by_cases hi : i < xs.size
  · have h2 : xs.size - 1 - i < xs.size := by omega
    rw [List.getElem?_map, List.getElem?_range hi, List.getElem?_reverse (by simpa using hi)]
    simp [Array.getD, h2]
  · rw [List.getElem?_eq_none (by simpa using hi), List.getElem?_eq_none (by simpa using hi)]
theorem getItem_tuple_rev {t sl : Addr} {items : Array Value} {vl vu vs : Value} {Q : Value → Shared → Prop} (ht : IsTup s.heap t items) (hs : s.heap.IsSliceOf sl vl vu vs) (pl : IsPart vl none) (pu : IsPart vu none) (ps : IsPart vs (some (-1)))
    (h : Q (.ref s.heap.objs.size) { s with heap := s.heap.push { cls := .type "tuple", data := .seq items.toList.reverse.toArray } }) (hsz : items.size ≤ sizeLine) : wpAny (model prog w) A (getItem (.ref t) (.ref sl)) Q E s := by
  have hsz' : sizeOk (.seq items.toList.reverse.toArray) := by
    show items.toList.reverse.toArray.size ≤ sizeLine
    rw [List.size_toArray, List.length_reverse, Array.length_toList]
    exact hsz
  obtain ⟨os, hos, hcs, hds⟩ := id hs
  have hTs : s.TypeIs (.ref sl) "slice" := ⟨os, hos, hcs⟩
  unfold getItem
  try with_reducible refine wpAny_holding ?_
  first | refine wpAny_bind (wpAny_pure ?_) | skip
  refine wpAny_bind (wpAny_sequenceKey ht.typeIs (by decide) ?_)
  refine wpAny_bind (wpAny_callSpecial?_slot (name := Str.ofString "__getitem__") ht.typeIs PyProof.Rows.slot_tuple_getitem
    (wpAny_call_entry PyProof.Rows.slot_tuple_getitem ht.typeIs entry_tuple_getitem ?_ (args_tuple_getitem _ _)))
  show wpAny _ _ (Builtin.Tuple.tupleItemsOf (.ref t) >>= _) _ _ s
  refine wpAny_bind (tupleItemsOf_ ht ?_)
  refine wpAny_bind (wpAny_typeOf hTs ?_)
  rw [if_pos (by decide)]
  refine wpAny_bind (slice_rev hs pl pu ps ?_)
  have hno : ¬ ((((items.size : Nat) : Int) - 1 == 0 && (-1 : Int) == 1 && items.size == items.size) = true) := by
    intro q
    rw [Bool.and_eq_true, Bool.and_eq_true] at q
    exact absurd q.1.2 (by decide)
  show wpAny _ _ (if (((items.size : Nat) : Int) - 1 == 0 && (-1 : Int) == 1 && items.size == items.size) = true then _ else _) _ _ s
  rw [if_neg hno, pick_rev]
  first
    | exact wpAny_bind (m := Builtin.Tuple.tupleExact _) (wpAny_newObj_type (wpAny_pure ⟨_, rfl, wpAny_pure h⟩) hsz')
    | exact wpAny_bind (m := Builtin.Tuple.tupleExact _) (wpAny_newObj_type (wpAny_bind (wpAny_pure (wpAny_pure ⟨_, rfl, wpAny_pure h⟩))) hsz')
    | exact wpAny_bind (wpAny_bind (m := Builtin.Tuple.tupleExact _) (wpAny_newObj_type (wpAny_pure (wpAny_pure ⟨_, rfl, wpAny_pure h⟩)) hsz'))
    | exact wpAny_bind (wpAny_bind (m := Builtin.Tuple.tupleExact _) (wpAny_newObj_type (wpAny_pure ⟨_, rfl, wpAny_pure h⟩) hsz'))
end
section
variable {X : Cx} {W0 : Wl} {R : XR} {a : Expr} {A B : Ex} {pos : Pos}
def tRevA (K : PySem.W.Frag) (te : TE) : TE := fun σ H Q => te σ H fun x H1 => (∃ a xs, x = .ref a ∧ SqL K H1 a xs ∧ ∀ p, H1 p = none → Q (.ref p) (upd H1 p (.lst xs.reverse))) ∨
  ∃ a xs, x = .ref a ∧ SqT K H1 a xs ∧ ∀ p ob, H1 p = none → ob.dict = none → Q (.ref p) (upd H1 p (.frz ob (.tup xs.reverse)))
theorem pe_revA {e : Expr} {te : TE} {k : Nat} {p1 p2 p3 pos : Pos} (he : PE X e te) : PE X (.Subscript e (.Slice none none (some (.UnaryOp .USub (.Constant (.int 1) k p1) p2)) p3) pos) (tRevA X.K te) := by
  refine ⟨fun pins s σ H Q I h => ?_⟩
  refine Subscript_ (thn (he.run pins s σ H _ I h) fun v s1 ⟨x, H1, I1, r1, q1⟩ => ?_)
  have hst : PO X (some (.UnaryOp .USub (.Constant (.int 1) k p1) p2)) (tPart (tUn (rU fun i => .int (-i)) (tC (.int 1)))) := po_some (pe_un un_neg pe_int)
  refine wpAny_Slice (thn (po_none.run pins s1 σ H1 (fun o H2 => o = none ∧ H2 = H1) I1 ⟨rfl, rfl⟩) fun vl s2 ⟨l, H2, I2, pl, el, e2⟩ => ?_)
  subst el e2
  refine thn (po_none.run pins s2 σ H2 (fun o H3 => o = none ∧ H3 = H2) I2 ⟨rfl, rfl⟩) fun vu s3 ⟨u, H3, I3, pu, eu, e3⟩ => ?_
  subst eu e3
  refine thn (hst.run pins s3 σ H3 (fun o H4 => o = some (-1) ∧ H4 = H3) I3 ⟨1, rfl, -1, rfl, rfl, rfl⟩) fun vs s4 ⟨o, H4, I4, ps, eo, e4⟩ => ?_
  subst eo e4
  have I5 : Inv X pins σ H4 { s4 with heap := s4.heap.push { cls := .type "slice", data := .fields #[vl, vu, vs] } } := I4.kept (t' := s4.toks) fun b ob q => Heap.get?_push_of_some _ q
  show wpAny (model X.prog X.w) X.A (subscriptTail e (.Slice none none (some (.UnaryOp .USub (.Constant (.int 1) k p1) p2)) p3) v (.ref s4.heap.objs.size)) (EP X pins σ Q) X.xe { s4 with heap := s4.heap.push { cls := .type "slice", data := .fields #[vl, vu, vs] } }
  rcases q1 with ⟨a, xs, ex, hx, q⟩ | ⟨a, xs, ex, hx, q⟩
  · subst ex
    cases r1
    obtain ⟨its, r, ht, hz⟩ := I5.list hx
    have hlen := r.length
    refine tail_any (ops := [.ref a, .ref s4.heap.objs.size]) ht.isList.typeIs (PySem.slot_list_getitem.lookup) ?_ (by with_unfolding_all rfl)
    refine wpAny_getItem_list_slice ht.isList (Heap.IsSliceOf.new _ vl vu vs) pl pu ps (by decide) ?_ (by rw [List.size_toArray]; omega)
    rw [PySem.W.krv_pick]
    refine ⟨.ref _, _, I5.laid (t' := s4.toks) (o := .lst xs.reverse) (fun b ob q => Heap.get?_push_of_some _ q) (Nat.le_refl _) ?_, rfl, q _ (I5.hok.fresh (Nat.le_refl _))⟩
    exact ⟨by rw [List.length_reverse]; exact hz, _, 0, r.reverse, Heap.get?_push_size _ rfl⟩
  · subst ex
    cases r1
    obtain ⟨its, r, ht, hz⟩ := I5.tuple hx
    have hlen := r.length
    refine tail_any (ops := [.ref a, .ref s4.heap.objs.size]) ht.typeIs PyProof.Rows.slot_tuple_getitem.lookup ?_ (by with_unfolding_all rfl)
    refine getItem_tuple_rev ht (Heap.IsSliceOf.new _ vl vu vs) pl pu ps ?_ (by rw [List.size_toArray]; omega)
    exact ⟨.ref _, _, Inv.tnew I5 (xs := xs.reverse) (its := its.reverse) r.reverse (by rw [List.length_reverse]; exact hz), rfl, q _ _ (I5.hok.fresh (Nat.le_refl _)) rfl⟩
theorem RepL.rev {K : PySem.W.Frag} {W : Wl} : ∀ {ds : List Dt} {vs : List V}, RepL K W vs ds → RepL K W vs.reverse ds.reverse
  | _, _, .nil => .nil
  | _, _, .cons a b => by
    rw [List.reverse_cons, List.reverse_cons]
    exact (RepL.rev b).append (.cons a .nil)
theorem r_rev {k : Nat} {p1 p2 p3 : Pos} {m : Md} (ha : PE X a (tE (sur X) W0 R .bo A)) : PE X (.Subscript a (.Slice none none (some (.UnaryOp .USub (.Constant (.int 1) k p1) p2)) p3) pos) (tE (sur X) W0 R m (.rev A)) :=
  PE.imp (pe_revA ha) fun σ H Q ⟨W, S, ρ, at_, h⟩ => one (m := .bo) at_ h fun x d W1 S1 a1 e1 r1 q1 => by
    obtain ⟨d', hd, q1⟩ := opt_eq q1
    cases d with
    | lst ds =>
      cases hd
      obtain ⟨l, vs, rfl, hq, rl⟩ := RepB.seq a1.w.sub r1
      exact .inl ⟨l, vs, rfl, hq, fun p hp => wish.new a1.w hp (wish.on q1 e1) rl.rev⟩
    | tup ds =>
      cases hd
      obtain ⟨l, vs, rfl, _, hq, rl⟩ := RepB.tup a1.w.sub r1
      exact .inr ⟨l, vs, rfl, hq.sq, fun p ob hp hob => wish.newT a1.w hp hob (wish.on q1 e1) rl.rev⟩
    | _ => cases hd
end
end Vr

/-! What a loop walks: lists, tuples, texts, enumerate, zip, range. -/
namespace Vr
open PySem PySem.Spec PyProof.Rows L2

/-! ### enumerate of a tuple -/
section
open AutoSeq1 (wpAny_loadPart')
theorem enum_newT (l : Addr) (items : Array Value) (n : Nat) (dct : Option Addr) (sl : Array (Option Value)) :
    Meets (Builtin.«enumerate.__new__» ⟨[.type "enumerate", .ref l], []⟩) (fun _ R s => s.heap.get? l = some { cls := .type "tuple", dict := dct, data := .seq items n, slots := sl } ∧
      R (.ok (.ret (.ref (s.heap.push { cls := .type "tuple_iterator", data := .fields #[.ref l, .int 0 0] }).objs.size)))
        { s with heap := (s.heap.push { cls := .type "tuple_iterator", data := .fields #[.ref l, .int 0 0] }).push { cls := .type "enumerate", data := .fields #[.none, .bool false, .ref s.heap.objs.size, rawInt 0, .none, .none] } }) :=
  .of_wp fun prog w A R s h => by
    obtain ⟨hp, g, d, tk, os⟩ := s; obtain ⟨hl, h⟩ := h
    have sub := sub_enumerate
    have hT : Heap.IsTuple (Shared.heap ⟨hp, g, d, tk, os⟩) l items := ⟨_, hl, rfl, n, rfl⟩
    wp_walk using wpAny_loadPart' hl
    refine wpAny_stack_any fun st => wpAny_pure ?_
    split
    · rename_i c _ _ _ _ _
      cases (c == Value.type "enumerate")
      · wp_walk using wpAny_loadPart' hl, wpAny_pyIter_tuple hT
        exact ⟨_, rfl, h⟩
      · wp_walk using wpAny_loadPart' hl, wpAny_pyIter_tuple hT
        exact ⟨_, rfl, h⟩
    · wp_walk using wpAny_loadPart' hl, wpAny_pyIter_tuple hT
      exact ⟨_, rfl, h⟩
end
section
variable {prog : Program} {w : World} {A : Around} {E : Value → Shared → Prop} {s : Shared}
theorem call_enumT {l : Addr} {items : Array Value} {Q : Value → Shared → Prop} (hT : IsTup s.heap l items)
    (h : ∀ h', IsEnum h' (s.heap.objs.size + 1) s.heap.objs.size 0 .none → h'.IsTupleIter s.heap.objs.size l 0 → (∀ b o, s.heap.get? b = some o → h'.get? b = some o) → Q (.ref (s.heap.objs.size + 1)) { s with heap := h' }) :
    wpAny (model prog w) A (call (.type "enumerate") [.ref l]) Q E s := by
  obtain ⟨⟨c, dct, dt, sl⟩, hl, hc, n, hd⟩ := hT
  simp only at hc hd
  subst hc hd
  refine callType_new F.called_enumerate (by decide) (F.typeCall_enumerate_1 _) (F.newCall_enumerate_1 _) (fun obj => F.args_object_init_2 obj _) F.entry_enumerate_new (enum_newT l items n dct sl) ⟨hl, ?_⟩
  have hz : (s.heap.push { cls := .type "tuple_iterator", data := .fields #[.ref l, .int 0 0] }).objs.size = s.heap.objs.size + 1 := Heap.size_push ..
  show _ ∧ _
  rw [hz]
  have he : IsEnum ((s.heap.push { cls := .type "tuple_iterator", data := .fields #[.ref l, .int 0 0] }).push { cls := .type "enumerate", data := .fields #[.none, .bool false, .ref s.heap.objs.size, rawInt 0, .none, .none] }) (s.heap.objs.size + 1) s.heap.objs.size 0 .none := by
    have k := Heap.get?_push_size (s.heap.push { cls := .type "tuple_iterator", data := .fields #[.ref l, .int 0 0] }) (o := { cls := .type "enumerate", data := .fields #[.none, .bool false, .ref s.heap.objs.size, rawInt 0, .none, .none] }) rfl
    rw [hz] at k; exact k
  exact ⟨⟨_, he, rfl⟩, h _ he ⟨_, Heap.get?_push_of_some _ (Heap.get?_push_size _ rfl), rfl, rfl⟩ fun b o x => Heap.get?_push_of_some _ (Heap.get?_push_of_some _ x)⟩
end
/-- the tuple at a, each item in a new pair -/
def IteT (K : PySem.W.Frag) (a : Addr) : It :=
  ⟨fun i H => ∃ (xs : List V) (x : V), SqT K H a xs ∧ xs[i]? = some x, fun i H v H' => ∃ T x, v = .ref T ∧ H T = none ∧ H' = upd H T (.tup [.int (i : Nat), x]) ∧ ∀ xs, SqT K H a xs → xs[i]? = some x, fun i H => ∃ xs : List V, SqT K H a xs ∧ xs.length = i⟩
theorem turn_enumT {P : Program} {w : World} {K : PySem.W.Frag} {elts : List Expr} {kk : Nat} {tpos : Pos} (a e it : Addr) :
    Turn P w K (.Tuple elts kk tpos) (IteT K a) [e, it] e (fun i h => (∃ old, IsEnum h e it ((i : Nat) : Int) old) ∧ h.IsTupleIter it a i ∧ e ≠ it ∧ a ≠ it ∧ a ≠ e) where
  mem := by simp
  obj := fun i h st b hb => by
    obtain ⟨⟨old, he⟩, ⟨o, ho, hc, hd⟩, _⟩ := st
    have e' : b = e ∨ b = it := by simpa using hb
    rcases e' with z | z
    · rw [z]; exact ⟨_, he, fun v q => nomatch q⟩
    · rw [z]; exact ⟨o, ho, fun v q => by rw [hd] at q; cases q⟩
  keep := fun i h h' st k => let ⟨⟨old, he⟩, hi, hne⟩ := st; ⟨⟨old, k e (by simp) _ he⟩, hi.at fun o q => k it (by simp) o q, hne⟩
  item := by
    intro X hP hw hK hc i pins s σ H E I hf st hg
    subst hP hw hK
    obtain ⟨⟨old, he⟩, hit, hne, ha, hae⟩ := st
    obtain ⟨xs, x, hq, hx⟩ := hg
    obtain ⟨its, rv, p, hz⟩ := I.tuple hq
    obtain ⟨u, hu, ru⟩ := rv.get hx
    have hel : e < s.heap.objs.size := Heap.lt_size he
    have hil : it < s.heap.objs.size := by obtain ⟨_, q, _⟩ := hit; exact Heap.lt_size q
    have hin : i < its.toArray.size := by
      have := (List.getElem?_eq_some_iff.mp hu).1
      simpa using this
    refine wpAny_pyNext_enum_itemD (Draws.tuple (prog := X.prog) (w := X.w) (A := X.A.in1) (I.ok.hd hc) it a ha its.toArray) he ⟨hit, p⟩ hin hne (by simp [hne, Ne.symm hae]) fun y h' tk hy ho hst hT hsz hk => ?_
    have ey : y = u := by
      have h1 : its.toArray[i]? = some y := hy
      rw [List.getElem?_toArray, hu] at h1
      exact (Option.some.inj h1).symm
    subst ey
    obtain ⟨hit', _⟩ := hst
    refine ⟨_, rfl, wpAny_letOwnedTupleGo_enum (s := { s with heap := h', toks := tk + 1 }) ho fun h'' he' sb => ?_⟩
    have hT2 : h''.get? s.heap.objs.size = some { cls := .type "tuple", data := .seq #[.int i tk, y] } := (sb.2 _ (Nat.ne_of_gt hel)).trans hT
    have new : ObjOk X.prog X.w (upd H s.heap.objs.size (.tup [.int (i : Nat), x])) h'' s.heap.objs.size (.tup [.int (i : Nat), x]) :=
      ⟨by show 2 ≤ sizeLine; decide, [.int i tk, y], .cons ⟨_, rfl⟩ (.cons ru .nil), ⟨_, hT2, rfl, _, rfl⟩⟩
    have I1 : Inv X pins σ (upd H s.heap.objs.size (.tup [.int (i : Nat), x])) { s with heap := h'', toks := tk + 1 } :=
      I.turnedNew (ch := [e, it]) (fun b ob hb q => (sb.2 b (fun z => hb (by simp [z]))).trans (hk b ob (fun z => hb (by simp [z])) (fun z => hb (by simp [z])) q)) hf (Nat.le_refl _) new
    refine ⟨.ref s.heap.objs.size, _, I1, rfl, ⟨_, x, rfl, I.hok.fresh (Nat.le_refl _), rfl, fun ys hy => by rw [I.tuple_inj hy hq]; exact hx⟩, ⟨⟨y, ?_⟩, hit'.at fun o q => (sb.2 it (Ne.symm hne)).trans q, hne, ha, hae⟩, fun b hb => ?_⟩
    · have e1 : ((i + 1 : Nat) : Int) = (i : Int) + 1 := by omega
      rw [e1]; exact he'
    · have hb' : b < s.heap.objs.size := by
        have e' : b = e ∨ b = it := by simpa using hb
        rcases e' with z | z
        · rw [z]; exact hel
        · rw [z]; exact hil
      rw [upd_ne (Nat.ne_of_lt hb')]
      exact (hf b hb).1
  done := by
    intro X hP hw hK hc i pins s σ H E I hf st hg
    subst hP hw hK
    obtain ⟨⟨old, he⟩, hit, hne, ha, hae⟩ := st
    obtain ⟨xs, hq, hx⟩ := hg
    obtain ⟨its, rv, p, hz⟩ := I.tuple hq
    obtain ⟨f0, f1, f2, f3, f4, f5⟩ := hf it (by simp)
    have hl := rv.length
    have hi : i = its.toArray.size := by rw [List.size_toArray, ← hl, hx]
    subst hi
    exact wpAny_pyNext_enum_endD (Draws.tuple (prog := X.prog) (w := X.w) (A := X.A.in1) (I.ok.hd hc) it a ha its.toArray) he ⟨hit, p⟩ fun h' eb => ⟨rfl, I.turned (t' := s.toks) (fun b o hb q => eb b o hb q) f0 f1 f3 f4 f5⟩
  self := fun A i s Q E st h => let ⟨⟨_, he⟩, _⟩ := st; wpAny_pyIter_enum he h
theorem walk_enumT {K : PySem.W.Frag} {a : Addr} {xs : List V} : Walk (IteT K a) xs.length (fun H => SqT K H a xs) (YPair (fun i => some (.int (i : Nat))) (fun i => xs[i]?)) := by
  refine ⟨fun i _ hi q => ⟨xs, xs[i], q, by simp [hi]⟩, fun _ q => ⟨xs, q, rfl⟩, fun i H v H' _ q y => ?_⟩
  obtain ⟨T, x, h1, h2, h3, h4⟩ := y
  exact ⟨T, .int (i : Nat), x, h1, h2, h3, rfl, h4 xs q⟩
theorem walk_zipT {K : PySem.W.Frag} {a b : Addr} {xs ys : List V} {n : Nat} (hn : n = min xs.length ys.length) : Walk (RZ.ItzT K a b) n (fun H => SqT K H a xs ∧ SqT K H b ys) (YPair (fun i => xs[i]?) (fun i => ys[i]?)) := by
  subst hn
  refine ⟨fun i _ hi q => ?_, fun _ q => ⟨xs, ys, q.1, q.2, by omega⟩, fun i H v H' _ q y => ?_⟩
  · have h1 : i < xs.length := by omega
    have h2 : i < ys.length := by omega
    exact ⟨xs, ys, xs[i], ys[i], q.1, q.2, by simp [h1], by simp [h2]⟩
  · obtain ⟨T, x, z, h1, h2, h3, h4, h5⟩ := y
    exact ⟨T, x, z, h1, h2, h3, h4 xs q.1, h5 ys q.2⟩

/-! ### sources -/
section
variable {X : Cx} {tg : Expr}
theorem pi_any {l : Expr} {tl : TE} (hl : PE X l tl) : PI X tg l (fun σ H Q => tl σ H fun x H1 => (∃ a xs, x = .ref a ∧ SqL X.K H1 a xs ∧ Q (Itl X.K a) H1) ∨ (∃ a xs, x = .ref a ∧ SqT X.K H1 a xs ∧ Q (Itt X.K a) H1) ∨ ∃ z, x = .str z ∧ Q (Its z) H1) := by
  constructor
  intro pins s σ H R I h
  refine thn (hl.run pins s σ H _ I h) fun v s1 ⟨x, H1, I1, r1, q1⟩ => ?_
  rcases q1 with ⟨a, xs, rfl, hq, q⟩ | ⟨a, xs, rfl, hq, q⟩ | ⟨z, rfl, q⟩
  · cases r1
    obtain ⟨its, rv, p, hz⟩ := I1.list hq
    refine wpAny_pyIter_list p.isList ⟨s1.heap.objs.size, [s1.heap.objs.size], _, _, H1, rfl, I1.kept (t' := s1.toks) (fun b o e => Heap.get?_push_of_some _ e), turn_list a _, ⟨_, Heap.get?_push_size _ rfl, rfl, rfl⟩, fun b hb => ?_, q⟩
    obtain rfl : b = s1.heap.objs.size := by simpa using hb
    exact I1.fpOk (Nat.le_refl _) (I1.hok.fresh (Nat.le_refl _))
  · cases r1
    obtain ⟨its, rv, p, hz⟩ := I1.tuple hq
    refine wpAny_pyIter_tuple (show s1.heap.IsTuple a its.toArray from p) ⟨s1.heap.objs.size, [s1.heap.objs.size], _, _, H1, rfl, I1.kept (t' := s1.toks) (fun b o e => Heap.get?_push_of_some _ e), turn_tuple a _, ⟨_, Heap.get?_push_size _ rfl, rfl, rfl⟩, fun b hb => ?_, q⟩
    obtain rfl : b = s1.heap.objs.size := by simpa using hb
    exact I1.fpOk (Nat.le_refl _) (I1.hok.fresh (Nat.le_refl _))
  · obtain ⟨t, rfl⟩ := r1
    cases ha : z.cps.all (· < 128)
    · exact wpAny_pyIter_wide ha (pi_one (tk := s1.toks) I1 _ (turn_str _ z t "str_iterator" (.inr rfl)) ⟨_, Heap.get?_push_size _ rfl, rfl, rfl⟩ q)
    · exact wpAny_pyIter_ascii ha (pi_one (tk := s1.toks) I1 _ (turn_str _ z t "str_ascii_iterator" (.inl rfl)) ⟨_, Heap.get?_push_size _ rfl, rfl, rfl⟩ q)
theorem pi_enumA {e : Expr} {ta : TA} {p pos tpos : Pos} {elts : List Expr} {kk : Nat} (hg : Gl X "enumerate") (hm : X.mg "enumerate" = none) (ha : PA X [e] ta) (hs : starEach [e] X.env = [(false, eval e X.env)]) :
    PI X (.Tuple elts kk tpos) (.Call (.Name "enumerate" p) [e] [] pos) (fun σ H Q => ta σ H fun vs H1 => (∃ a xs, vs = [.ref a] ∧ SqL X.K H1 a xs ∧ Q (Ite X.K a) H1) ∨ ∃ a xs, vs = [.ref a] ∧ SqT X.K H1 a xs ∧ Q (IteT X.K a) H1) := by
  constructor
  intro pins s σ H R I h
  refine Call_ (ld_blt I hg hm boot_enumerate (PyProof.Rows.callWith_type1 (thn (ha.run pos pins s σ H _ I h) fun us s1 ⟨vs, H1, I1, r1, q1⟩ => ?_) hs rfl))
  have fp : ∀ b ∈ [s1.heap.objs.size + 1, s1.heap.objs.size], FpOk X pins H1 b := fun b hb => by
    have e' : b = s1.heap.objs.size + 1 ∨ b = s1.heap.objs.size := by simpa using hb
    have hle : s1.heap.objs.size ≤ b := by
      rcases e' with z | z
      · rw [z]; exact Nat.le_add_right _ _
      · rw [z]; exact Nat.le_refl _
    exact I1.fpOk hle (I1.hok.fresh hle)
  rcases q1 with ⟨a, xs, rfl, hq, q⟩ | ⟨a, xs, rfl, hq, q⟩
  · obtain ⟨u, rfl, ru⟩ := vals1 r1
    cases ru
    obtain ⟨its, rv, p', hz⟩ := I1.list hq
    refine call_enumerate_list p'.isList fun h' he hit hsz hk => wpAny_pyIter_enum he ?_
    exact ⟨s1.heap.objs.size + 1, [s1.heap.objs.size + 1, s1.heap.objs.size], _, _, H1, rfl, I1.kept (t' := s1.toks) hk, turn_enum a (s1.heap.objs.size + 1) s1.heap.objs.size, ⟨⟨.none, he⟩, hit, Nat.succ_ne_self _⟩, fp, q⟩
  · obtain ⟨u, rfl, ru⟩ := vals1 r1
    cases ru
    obtain ⟨its, rv, p', hz⟩ := I1.tuple hq
    have la : a < s1.heap.objs.size := by obtain ⟨o, ho, _⟩ := p'; exact Heap.lt_size ho
    refine call_enumT p' fun h' he hit hk => wpAny_pyIter_enum he ?_
    exact ⟨s1.heap.objs.size + 1, [s1.heap.objs.size + 1, s1.heap.objs.size], _, _, H1, rfl, I1.kept (t' := s1.toks) hk, turn_enumT a (s1.heap.objs.size + 1) s1.heap.objs.size, ⟨⟨.none, he⟩, hit, Nat.succ_ne_self _, Nat.ne_of_lt la, Nat.ne_of_lt (Nat.lt_succ_of_lt la)⟩, fp, q⟩
end
/-- how much later a world may be while a source is walked -/
def Later (m : Md) (W W' : Wl) : Prop := match m with
  | .bo => Ext W W' ∧ Same W'.f W'.h
  | _ => W.ad <+: W'.ad ∧ Same W.f W'.f ∧ Same W'.f W'.h
/-- what a turn gives: a datum that stands, or a new pair -/
def ItemOk (K : PySem.W.Frag) (pr : Bool) (W : Wl) (x : V) (H' : Hp) (d : Dt) : Prop := (H' = W.h ∧ Rep K W x d) ∨ pr = true ∧ ∃ T xs es, x = .ref T ∧ d = .tup es ∧ W.h T = none ∧ H' = upd W.h T (.tup xs) ∧ RepL K W xs es
structure Src (K : PySem.W.Frag) (pr : Bool) (m : Md) (W : Wl) (J : It) (ds : List Dt) : Prop where
  ex : ∃ (Gd : Hp → Prop) (Y : Nat → Hp → V → Hp → Prop), Walk J ds.length Gd Y ∧ (∀ W2, Later m W W2 → Gd W2.h) ∧ ∀ W2 i d x H', Later m W W2 → ds[i]? = some d → Y i W2.h x H' → ItemOk K pr W2 x H' d
def tI (G : Sur) (W0 : Wl) (R : XR) (pr : Bool) (m : Md) (E : Ex) : TI := fun σ H Q => ∃ W S ρ, At G W0 σ H W S ρ ∧ wp E R ρ S fun d S' => opt (items d) fun ds => ∀ J W', Wd G W' S' → Ext W W' → Src G.K pr m W' J ds → Q J W'.h
theorem Later.same {m : Md} {W W' : Wl} (h : Later m W W') : W.ad <+: W'.ad ∧ Same W.f W'.f ∧ Same W'.f W'.h := by
  cases m with
  | bo => exact ⟨h.1.ad, h.1.f, h.2⟩
  | sh => exact h
  | ow => exact h
theorem Rep.later {K : PySem.W.Frag} {m : Md} {W W' : Wl} (h : Later m W W') {v : V} {d : Dt} (r : Rep K W v d) : Rep K W' v d := r.grow h.same.1 h.same.2.1
theorem RepL.later {K : PySem.W.Frag} {m : Md} {W W' : Wl} (h : Later m W W') {v : List V} {d : List Dt} (r : RepL K W v d) : RepL K W' v d := r.grow h.same.1 h.same.2.1
/-- a list that is read stands on -/
theorem seq_later {K : PySem.W.Frag} {m : Md} {W : Wl} {x : V} {ds : List Dt} (hm : m = .sh ∨ m = .bo) (hs : Same W.f W.h) (r : Rz K m W W x (.lst ds)) : ∃ a vs, x = .ref a ∧ RepL K W vs ds ∧ SqL K W.h a vs ∧ ∀ W2, Later m W W2 → SqL K W2.h a vs := by
  rcases hm with rfl | rfl
  · cases r with
    | lst hq ha => exact ⟨_, _, rfl, ha, hs.seq hq, fun W2 h => (h.2.1.trans h.2.2).seq hq⟩
  · rcases r with r | ⟨ds', e, l, vs, rfl, h1, h2, h3, h4⟩
    · cases r with
      | lst hq ha => exact ⟨_, _, rfl, ha, hs.seq hq, fun W2 h => (h.1.f.trans h.2).seq hq⟩
    · cases e
      exact ⟨l, vs, rfl, h2, SqL.of h1, fun W2 h => SqL.of (h.1.h l _ h1 h4)⟩
theorem tup_later {K : PySem.W.Frag} {m : Md} {W : Wl} {x : V} {ds : List Dt} (hm : m = .sh ∨ m = .bo) (hs : Same W.f W.h) (r : Rz K m W W x (.tup ds)) : ∃ a vs, x = .ref a ∧ RepL K W vs ds ∧ SqT K W.h a vs ∧ ∀ W2, Later m W W2 → SqT K W2.h a vs := by
  have r' : Rep K W x (.tup ds) := by
    rcases hm with rfl | rfl
    · exact r
    · rcases r with r | ⟨ds', e, _⟩
      · exact r
      · cases e
  cases r' with
  | tup hq ha => exact ⟨_, _, rfl, ha, (hq.same hs).sq, fun W2 h => (hq.same (h.same.2.1.trans h.same.2.2)).sq⟩
theorem src_list {K : PySem.W.Frag} {m : Md} {pr : Bool} {W : Wl} {a : Addr} {vs : List V} {ds : List Dt} (r : RepL K W vs ds) (h : ∀ W2, Later m W W2 → SqL K W2.h a vs) : Src K pr m W (Itl K a) ds :=
  ⟨_, _, r.length ▸ walk_list (xs := vs), h, fun W2 i d x H' l e y => by
    obtain ⟨v, h1, h2⟩ := r.get e
    obtain ⟨y1, y2⟩ := y
    have y3 : vs[i]? = some x := y2
    rw [h1] at y3
    cases y3
    exact .inl ⟨y1, h2.later l⟩⟩
theorem src_tup {K : PySem.W.Frag} {m : Md} {pr : Bool} {W : Wl} {a : Addr} {vs : List V} {ds : List Dt} (r : RepL K W vs ds) (h : ∀ W2, Later m W W2 → SqT K W2.h a vs) : Src K pr m W (Itt K a) ds :=
  ⟨_, _, r.length ▸ walk_tup (xs := vs), h, fun W2 i d x H' l e y => by
    obtain ⟨v, h1, h2⟩ := r.get e
    obtain ⟨y1, y2⟩ := y
    have y3 : vs[i]? = some x := y2
    rw [h1] at y3
    cases y3
    exact .inl ⟨y1, h2.later l⟩⟩
theorem signs_at (z : Str) (i : Nat) : (signs z)[i]? = (z.cps[i]?).map fun c => .str ⟨#[c]⟩ := by
  unfold signs
  rw [List.getElem?_map, Array.getElem?_toList]
theorem src_str {K : PySem.W.Frag} {m : Md} {pr : Bool} {W : Wl} {z : Str} : Src K pr m W (Its z) (signs z) := by
  have hn : (signs z).length = z.cps.size := by unfold signs; rw [List.length_map, Array.length_toList]
  refine ⟨_, _, hn ▸ walk_str (z := z), fun _ _ => trivial, fun W2 i d x H' l e y => ?_⟩
  obtain ⟨y1, c, y2, y3⟩ := y
  rw [signs_at, y2] at e
  cases e
  subst y3
  exact .inl ⟨y1, .str _ (by rw [sizeLine_eq]; exact (by decide : 1 ≤ 16777216))⟩
theorem enumD_at : ∀ (ds : List Dt) (k i : Nat), (enumD k ds)[i]? = (ds[i]?).map fun d => .tup [.int ((k + i : Nat) : Int), d]
  | [], k, i => by simp [enumD]
  | d :: ds, k, 0 => by simp [enumD]
  | d :: ds, k, i + 1 => by
    have ih := enumD_at ds (k + 1) i
    simp only [enumD, List.getElem?_cons_succ]
    rw [ih]
    congr 2
    funext e
    rw [show k + 1 + i = k + (i + 1) by omega]
theorem enumD_length : ∀ (ds : List Dt) (k : Nat), (enumD k ds).length = ds.length
  | [], _ => rfl
  | d :: ds, k => by simp [enumD, enumD_length ds (k + 1)]
theorem src_enum {K : PySem.W.Frag} {m : Md} {W : Wl} {J : It} {vs : List V} {ds : List Dt} {Gd : Hp → Prop} (r : RepL K W vs ds) (w : Walk J vs.length Gd (YPair (fun i => some (.int (i : Nat))) (fun i => vs[i]?))) (h : ∀ W2, Later m W W2 → Gd W2.h) : Src K true m W J (enumD 0 ds) := by
  refine ⟨_, _, ((enumD_length ds 0).trans r.length.symm) ▸ w, h, fun W2 i d x H' l e y => ?_⟩
  obtain ⟨T, a, b, rfl, h1, h2, h3, h4⟩ := y
  rw [enumD_at] at e
  obtain ⟨d', e1, e2⟩ := Option.map_eq_some_iff.mp e
  obtain ⟨v, h5, h6⟩ := r.get e1
  cases h3
  have h4' : vs[i]? = some b := h4
  rw [h5] at h4'
  cases h4'
  subst e2
  refine .inr ⟨rfl, T, _, _, rfl, rfl, h1, h2, .cons ?_ (.cons (h6.later l) .nil)⟩
  rw [Nat.zero_add]
  exact .int _
theorem zipD_at : ∀ (as bs : List Dt) (i : Nat) (d : Dt), (zipD as bs)[i]? = some d → ∃ a b, as[i]? = some a ∧ bs[i]? = some b ∧ d = .tup [a, b]
  | [], _, i, d, e => by simp [zipD] at e
  | _ :: _, [], i, d, e => by simp [zipD] at e
  | a :: as, b :: bs, 0, d, e => by simp [zipD] at e; exact ⟨a, b, rfl, rfl, e.symm⟩
  | a :: as, b :: bs, i + 1, d, e => by simp [zipD] at e; simpa using zipD_at as bs i d e
theorem zipD_length : ∀ (as bs : List Dt), (zipD as bs).length = min as.length bs.length
  | [], _ => by simp [zipD]
  | _ :: _, [] => by simp [zipD]
  | a :: as, b :: bs => by simp [zipD, zipD_length as bs]
theorem src_zip {K : PySem.W.Frag} {m : Md} {W : Wl} {J : It} {vs us : List V} {ds es : List Dt} {Gd : Hp → Prop} (r : RepL K W vs ds) (r2 : RepL K W us es) (w : Walk J (min vs.length us.length) Gd (YPair (fun i => vs[i]?) (fun i => us[i]?))) (h : ∀ W2, Later m W W2 → Gd W2.h) :
    Src K true m W J (zipD ds es) := by
  refine ⟨_, _, (show (zipD ds es).length = min vs.length us.length by rw [zipD_length, r.length, r2.length]) ▸ w, h, fun W2 i d x H' l e y => ?_⟩
  obtain ⟨T, a, b, rfl, h1, h2, h3, h4⟩ := y
  obtain ⟨d1, d2, e1, e2, rfl⟩ := zipD_at ds es i d e
  obtain ⟨v, h5, h6⟩ := r.get e1
  obtain ⟨u, h7, h8⟩ := r2.get e2
  have h3' : vs[i]? = some a := h3
  have h4' : us[i]? = some b := h4
  rw [h5] at h3'
  rw [h7] at h4'
  cases h3'
  cases h4'
  exact .inr ⟨rfl, T, _, _, rfl, rfl, h1, h2, .cons (h6.later l) (.cons (h8.later l) .nil)⟩

section
variable {X : Cx} {W0 : Wl} {R : XR} {a b : Expr} {A B : Ex} {pos p : Pos} {tg : Expr}
theorem twoM {G : Sur} {m : Md} {σ : L2.St} {H : Hp} {W : Wl} {S : Store} {ρ : Ev} {J : Dt → Dt → Store → Prop} {Q : V → V → Hp → Prop} (hm : m = .sh ∨ m = .bo) (at_ : At G W0 σ H W S ρ) (h : wp A R ρ S fun x S1 => wp B R ρ S1 fun y S2 => J x y S2)
    (f : ∀ x y d1 d2 W2 S2, At G W0 σ W2.h W2 S2 ρ → Ext W W2 → Rz G.K m W2 W2 x d1 → Rz G.K m W2 W2 y d2 → J d1 d2 S2 → Q x y W2.h) : tE G W0 R m A σ H fun x H1 => tE G W0 R m B σ H1 fun y H2 => Q x y H2 := by
  rcases hm with rfl | rfl
  · exact ⟨W, S, ρ, at_, wp_mono _ _ _ _ _ _ _ (fun _ _ z => z) (fun d1 S1 q1 x W1 w1 e1 r1 => ⟨W1, S1, ρ, at_.on w1 e1, wp_mono _ _ _ _ _ _ _ (fun _ _ z => z) (fun d2 S2 q2 y W2 w2 e2 r2 =>
      f x y d1 d2 W2 S2 (at_.on w2 (e1.trans e2)) (e1.trans e2) (Rep.mono e2 r1) r2 q2) q1⟩) h⟩
  · exact two at_ h f
theorem s_any {m : Md} {pr : Bool} (hm : m = .sh ∨ m = .bo) (ha : PE X a (tE (sur X) W0 R m A)) : PI X tg a (tI (sur X) W0 R pr m A) :=
  PI.imp (pi_any ha) fun σ H Q ⟨W, S, ρ, at_, h⟩ => one at_ h fun x d W1 S1 a1 e1 r1 q => by
    obtain ⟨ds, hd, q⟩ := opt_eq q
    have r1' : Rz X.K m W1 W1 x d := by
      rcases hm with rfl | rfl
      · exact r1
      · exact r1
    cases d with
    | lst ds' =>
      cases hd
      obtain ⟨l, vs, rfl, h1, h2, h3⟩ := seq_later hm a1.w.sub r1'
      exact .inl ⟨l, vs, rfl, h2, q _ W1 a1.w e1 (src_list h1 h3)⟩
    | tup ds' =>
      cases hd
      obtain ⟨l, vs, rfl, h1, h2, h3⟩ := tup_later hm a1.w.sub r1'
      exact .inr (.inl ⟨l, vs, rfl, h2, q _ W1 a1.w e1 (src_tup h1 h3)⟩)
    | str z =>
      cases hd
      have ez : x = .str z := by
        rcases hm with rfl | rfl
        · cases r1; rfl
        · exact (RepB.str r1).1
      exact .inr (.inr ⟨z, ez, q _ W1 a1.w e1 src_str⟩)
    | _ => cases hd
theorem s_enum {m : Md} {elts : List Expr} {kk : Nat} {tpos : Pos} (hm : m = .sh ∨ m = .bo) (hg : Gl X "enumerate") (hx : X.mg "enumerate" = none) (hn : noStar a = true) (ha : PE X a (tE (sur X) W0 R m A)) :
    PI X (.Tuple elts kk tpos) (.Call (.Name "enumerate" p) [a] [] pos) (tI (sur X) W0 R true m (.enu A)) :=
  PI.imp (pi_enumA hg hx (pa_cons ha pa_nil (star_plain hn)) (star_plain hn)) fun σ H Q ⟨W, S, ρ, at_, h⟩ => one at_ h fun x d W1 S1 a1 e1 r1 q => by
    obtain ⟨ds, hd, q⟩ := opt_eq q
    have r1' : Rz X.K m W1 W1 x d := by
      rcases hm with rfl | rfl
      · exact r1
      · exact r1
    cases d with
    | lst ds' =>
      cases hd
      obtain ⟨l, vs, rfl, h1, h2, h3⟩ := seq_later hm a1.w.sub r1'
      exact .inl ⟨l, vs, rfl, h2, q _ W1 a1.w e1 (src_enum h1 walk_enum h3)⟩
    | tup ds' =>
      cases hd
      obtain ⟨l, vs, rfl, h1, h2, h3⟩ := tup_later hm a1.w.sub r1'
      exact .inr ⟨l, vs, rfl, h2, q _ W1 a1.w e1 (src_enum h1 walk_enumT h3)⟩
    | _ => cases hd
theorem s_zip {elts : List Expr} {kk : Nat} {tpos : Pos} (hg : Gl X "zip") (hx : X.mg "zip" = none) (hn : noStar a = true) (hn2 : noStar b = true) {m : Md} (hm : m = .sh ∨ m = .bo) (ha : PE X a (tE (sur X) W0 R m A)) (hb : PE X b (tE (sur X) W0 R m B)) :
    PI X (.Tuple elts kk tpos) (.Call (.Name "zip" p) [a, b] [] pos) (tI (sur X) W0 R true m (.zip A B)) :=
  PI.imp (RZ.pi_zipA hg hx (pa_cons ha (pa_cons hb pa_nil (star_plain hn2)) (star_plain hn)) (star_plain hn) (by rw [star_plain hn2]; rfl)) fun σ H Q ⟨W, S, ρ, at_, h⟩ => twoM hm at_ h fun x y d1 d2 W2 S2 a2 e r1' r2' q => by
    obtain ⟨ds, hd, q⟩ := opt_eq q
    cases d1 with
    | lst ds1 => cases d2 with
      | lst ds2 =>
        cases hd
        obtain ⟨l, vs, rfl, h1, h2, h3⟩ := seq_later hm a2.w.sub r1'
        obtain ⟨l', us, rfl, h1', h2', h3'⟩ := seq_later hm a2.w.sub r2'
        exact ⟨l, l', vs, us, rfl, .inl ⟨h2, h2', q _ W2 a2.w e (src_zip h1 h1' (walk_zip rfl) fun W3 z => ⟨h3 W3 z, h3' W3 z⟩)⟩⟩
      | _ => cases hd
    | tup ds1 => cases d2 with
      | tup ds2 =>
        cases hd
        obtain ⟨l, vs, rfl, h1, h2, h3⟩ := tup_later hm a2.w.sub r1'
        obtain ⟨l', us, rfl, h1', h2', h3'⟩ := tup_later hm a2.w.sub r2'
        exact ⟨l, l', vs, us, rfl, .inr ⟨h2, h2', q _ W2 a2.w e (src_zip h1 h1' (walk_zipT rfl) fun W3 z => ⟨h3 W3 z, h3' W3 z⟩)⟩⟩
      | _ => cases hd
    | _ => cases hd
theorem s_rng {m : Md} {pr : Bool} (hg : Gl X "range") (hx : X.mg "range" = none) (hn : noStar a = true) (ha : PE X a (tE (sur X) W0 R .bo A)) : PI X tg (.Call (.Name "range" p) [a] [] pos) (tI (sur X) W0 R pr m (.rng A)) :=
  PI.imp (pi_range1 hg hx (pa_cons ha pa_nil (star_plain hn)) (star_plain hn)) fun σ H Q ⟨W, S, ρ, at_, h⟩ => one (m := .bo) at_ h fun x d W1 S1 a1 e1 r1 q => by
    cases d with
    | int n =>
      cases RepB.int r1
      dsimp only at q
      split at q
      · rename_i hc
        refine ⟨n, rfl, hc.2, hc.1, q _ W1 a1.w e1 ⟨fun _ => True, YFn (fun i => .int ((0 : Int) + i)), ?_, fun _ _ => trivial, fun W2 i d x H' l e y => ?_⟩⟩
        · have hl : ((List.range n.toNat).map fun i => Dt.int (i : Nat)).length = n.toNat := by rw [List.length_map, List.length_range]
          rw [hl]
          exact walk_range
        · obtain ⟨y1, y2⟩ := y
          rw [List.getElem?_map] at e
          obtain ⟨j, e1, e2⟩ := Option.map_eq_some_iff.mp e
          have e3 : i = j := by
            obtain ⟨h1, h2⟩ := List.getElem?_eq_some_iff.mp e1
            rw [List.getElem_range] at h2
            exact h2
          subst e3 e2 y2
          show ItemOk X.K pr W2 (.int (0 + (i : Int))) H' (Dt.int i)
          rw [Int.zero_add]
          exact .inl ⟨y1, .int _⟩
      · exact q.elim
    | _ => exact q.elim
end
end Vr

/-! List comprehensions. -/
namespace Vr
open PySem PySem.Spec PyProof.Rows L2

/-! ### an object of our own changes -/
theorem Wd.chg {G : Sur} {W : Wl} {S : Store} (w : Wd G W S) {l : Addr} {o : HO} (hf : W.f l = none) (hn : l ∉ W.ad) : Wd G (W.own l o) S := by
  refine ⟨fun b x e => ?_, w.len, w.nd, fun k r e => ?_⟩
  · have ne : b ≠ l := by
      rintro rfl
      have e' : W.f b = some x := e
      rw [hf] at e'
      cases e'
    show upd W.h l o b = some x
    rw [upd_ne ne]
    exact w.sub b x e
  · obtain ⟨a, h1, h2, h3⟩ := w.res k r e
    have ne : a ≠ l := fun z => hn (z ▸ List.mem_of_getElem? h1)
    refine ⟨a, h1, h2, ?_⟩
    cases r with
    | deck m =>
      obtain ⟨x, y, c, q, r⟩ := h3
      exact ⟨x, y, c, (upd_ne ne).trans q, r⟩
    | obj c fs =>
      obtain ⟨C, dx, vs, q1, q2, q3⟩ := h3
      exact ⟨C, dx, vs, q1, (upd_ne ne).trans q2, RepF.grow (W := W) (W' := W.own l o) (List.prefix_refl _) (Same.refl _) q3⟩
    | dct kvs => exact ⟨(upd_ne ne).trans h3.1, h3.2⟩
theorem Ext.chg {W0 W : Wl} (e : Ext W0 W) {l : Addr} {o : HO} (h0 : W0.h l = none) : Ext W0 (W.own l o) := by
  refine ⟨e.ad, e.f, fun a x q n => ?_, e.fr, e.nw, fun a q => (e.td a q).imp (fun z => ?_) id⟩
  · have ne : a ≠ l := by
      rintro rfl
      rw [h0] at q
      cases q
    show upd W.h l o a = some x
    rw [upd_ne ne]
    exact e.h a x q n
  · show upd W.h l o a ≠ none
    by_cases h : a = l
    · subst h
      rw [upd_same]
      exact fun z => nomatch z
    · rw [upd_ne h]
      exact z
theorem Rep.own {K : PySem.W.Frag} {W : Wl} {l : Addr} {o : HO} {v : V} {d : Dt} (r : Rep K W v d) : Rep K (W.own l o) v d := Rep.grow (W := W) (W' := W.own l o) (List.prefix_refl _) (Same.refl _) r
theorem RepL.own {K : PySem.W.Frag} {W : Wl} {l : Addr} {o : HO} {v : List V} {d : List Dt} (r : RepL K W v d) : RepL K (W.own l o) v d := RepL.grow (W := W) (W' := W.own l o) (List.prefix_refl _) (Same.refl _) r
/-- a list made since -/
theorem wish.done {G : Sur} {m : Md} {W W' : Wl} {S : Store} {ds : List Dt} {vs : List V} {l : Addr} {Q : VK} (h : wish G m W S (.lst ds) Q) (w : Wd G W' S) (e : Ext W W') (h0 : W.h l = none) (h1 : W'.h l = some (.lst vs)) (r : RepL G.K W' vs ds) (hf : W'.f l = none) (ha : l ∉ W'.ad) : Q (.ref l) W'.h :=
  h.share (.ref l) W' w e ⟨fun ds' q => by cases q; exact ⟨l, vs, rfl, h1, r, hf, ha, h0⟩, fun n => absurd rfl (n ds)⟩

/-! ### patterns -/
def ptIx : Pt → List Nat
  | .one i => [i]
  | .many is => is
def gL : List Nat → TGs
  | [] => gNil
  | i :: is => gCons (gName i) (gL is)
def gP (K : PySem.W.Frag) : Pt → TG
  | .one i => gName i
  | .many is => gTup K is.length (gL is)
def ptsC (N : List Str) (ok : Str → Bool) : List Nat → List Expr → Bool
  | [], [] => true
  | i :: is, .Name x _ :: es => decide (N[i]? = some x) && ok x && ptsC N ok is es
  | _, _ => false
def ptC (N : List Str) (ok : Str → Bool) : Pt → Expr → Bool
  | .one i, .Name x _ => decide (N[i]? = some x) && ok x
  | .many is, .Tuple es _ _ => ptsC N ok is es
  | _, _ => false
section
variable {X : Cx} {ok : Str → Bool}
theorem pgs_pt (hN : X.N.Nodup) (hok : ∀ x, ok x = true → Loc X.env.scope x ∧ (X.fn x = true ∨ X.env.scope.names.lookup x = some .local)) : ∀ (is : List Nat) (es : List Expr), ptsC X.N ok is es = true →
    PGs X es (gL is) ∧ (assignEach es X.env).length = is.length ∧ (assignEach es X.env).findIdx? (·.1) = none
  | [], [], _ => ⟨pgs_nil, rfl, rfl⟩
  | [], _ :: _, h => by simp [ptsC] at h
  | _ :: _, [], h => by simp [ptsC] at h
  | i :: is, e :: es, h => by
    cases e with
    | Name x p =>
      unfold ptsC at h
      rw [Bool.and_eq_true, Bool.and_eq_true] at h
      obtain ⟨⟨h1, h2⟩, h3⟩ := h
      obtain ⟨a1, a2, a3⟩ := pgs_pt hN hok is es h3
      obtain ⟨b1, b2⟩ := hok x h2
      refine ⟨pgs_cons (pg_name hN (of_decide_eq_true h1) b1 b2) a1, ?_, ?_⟩
      · show (assignEach es X.env).length + 1 = is.length + 1
        rw [a2]
      · have e1 : assignEach (.Name x p :: es) X.env = (false, assign (.Name x p) X.env) :: assignEach es X.env := rfl
        rw [e1, List.findIdx?_cons, a3]
        rfl
    | _ => simp [ptsC] at h
theorem pg_pt (hc : X.calm = true) (hN : X.N.Nodup) (hok : ∀ x, ok x = true → Loc X.env.scope x ∧ (X.fn x = true ∨ X.env.scope.names.lookup x = some .local)) : ∀ (pt : Pt) (e : Expr), ptC X.N ok pt e = true → PG X e (gP X.K pt)
  | .one i, e, h => by
    cases e with
    | Name x p =>
      unfold ptC at h
      rw [Bool.and_eq_true] at h
      obtain ⟨b1, b2⟩ := hok x h.2
      exact pg_name hN (of_decide_eq_true h.1) b1 b2
    | _ => simp [ptC] at h
  | .many is, e, h => by
    cases e with
    | Tuple es x p =>
      obtain ⟨a1, a2, a3⟩ := pgs_pt hN hok is es h
      exact pg_tup hc a1 a2 a3
    | _ => simp [ptC] at h
end
theorem list_bind {K : PySem.W.Frag} {H0 H : Hp} {W : Wl} : ∀ (is : List Nat) (ds : List Dt) (ρ ρ' : Ev) (σ : L2.St) (vs : List V) (Q : L2.St → Hp → Prop), bindL is ds ρ = some ρ' → EvOk K H0 W σ ρ → RepL K W vs ds →
    (∀ σ', EvOk K H0 W σ' ρ' → σ'.length = σ.length → (∀ j, j ∉ is → σ'[j]? = σ[j]?) → Q σ' H) → gL is vs σ H Q
  | [], [], ρ, ρ', σ, vs, Q, hb, ev, r, q => by
    cases hb
    cases r
    exact ⟨rfl, q σ ev rfl fun _ _ => rfl⟩
  | i :: is, d :: ds, ρ, ρ', σ, vs, Q, hb, ev, r, q => by
    cases r with
    | cons r1 r2 =>
      refine ⟨_, _, rfl, list_bind is ds _ ρ' _ _ Q hb (ev.setSh i r1) r2 fun σ' ev' hl hj => q σ' ev' (by rw [hl, List.length_set]) fun j n => ?_⟩
      rw [hj j fun z => n (List.mem_cons_of_mem _ z), List.getElem?_set_ne fun z : i = j => n (by rw [z]; exact List.mem_cons_self)]
  | [], _ :: _, _, _, _, _, _, hb, _, _, _ => by simp [bindL] at hb
  | _ :: _, [], _, _, _, _, _, hb, _, _, _ => by simp [bindL] at hb
theorem pat_read {G : Sur} {H0 : Hp} {W : Wl} {S : Store} {σ : L2.St} {ρ ρ' : Ev} {pr : Bool} {x : V} {H' : Hp} {d : Dt} {pt : Pt} {Q : L2.St → Hp → Prop} (w : Wd G W S) (ev : EvOk G.K H0 W σ ρ) (it : ItemOk G.K pr W x H' d) (hp : pr = false ∨ ∃ is, pt = .many is) (hb : bindP pt d ρ = some ρ')
    (q : ∀ σ' W', Wd G W' S → Ext W W' → EvOk G.K H0 W' σ' ρ' → σ'.length = σ.length → (∀ j, j ∉ ptIx pt → σ'[j]? = σ[j]?) → Q σ' W'.h) : gP G.K pt x σ H' Q := by
  rcases it with ⟨rfl, r⟩ | ⟨hpr, T, xs, es, rfl, rfl, h1, rfl, r⟩
  · cases pt with
    | one i =>
      cases hb
      refine q _ W w (Ext.refl W) (ev.setSh i r) (List.length_set ..) fun j n => ?_
      rw [List.getElem?_set_ne fun z : i = j => n (by rw [z]; exact List.mem_cons_self)]
    | many is =>
      cases d with
      | tup ds =>
        cases r with
        | tup hq hr =>
          have hl : is.length = ds.length := by
            have go : ∀ (is : List Nat) (ds : List Dt) (ρ : Ev), bindL is ds ρ = some ρ' → is.length = ds.length := by
              intro is
              induction is with
              | nil => intro ds ρ h; cases ds with
                | nil => rfl
                | cons => simp [bindL] at h
              | cons i is ih => intro ds ρ h; cases ds with
                | nil => simp [bindL] at h
                | cons d ds => simp only [List.length_cons]; rw [ih ds _ h]
            exact go is ds ρ hb
          exact ⟨_, _, rfl, (hq.same w.sub).sq, by rw [hr.length, hl], list_bind is ds ρ ρ' σ _ _ hb ev hr fun σ' ev' a b => q σ' W w (Ext.refl W) ev' a b⟩
      | _ => cases hb
  · rcases hp with hp | ⟨is, rfl⟩
    · rw [hp] at hpr; cases hpr
    · have hl : is.length = es.length := by
        have go : ∀ (is : List Nat) (ds : List Dt) (ρ : Ev), bindL is ds ρ = some ρ' → is.length = ds.length := by
          intro is
          induction is with
          | nil => intro ds ρ h; cases ds with
            | nil => rfl
            | cons => simp [bindL] at h
          | cons i is ih => intro ds ρ h; cases ds with
            | nil => simp [bindL] at h
            | cons d ds => simp only [List.length_cons]; rw [ih ds _ h]
        exact go is es ρ hb
      have w' := w.own (o := .tup xs) h1
      have e' := w.ext_own (o := .tup xs) h1
      exact ⟨T, xs, rfl, .inl (.inl upd_same), by rw [r.length, hl], list_bind is es ρ ρ' σ _ _ hb (ev.mono e') (r.mono e') fun σ' ev' a b => q σ' (W.own T (.tup xs)) w' e' ev' a b⟩

/-! ### the block's slots -/
theorem wipe_get (σ : L2.St) : ∀ (vs : List Nat) (j : Nat), (wipe σ vs)[j]? = if j ∈ vs then (σ[j]?).map (fun _ => none) else σ[j]?
  | [], j => by simp [wipe]
  | v :: vs, j => by
    show ((wipe σ vs).set v none)[j]? = _
    by_cases h : v = j
    · subst h
      rw [if_pos List.mem_cons_self]
      by_cases hl : v < σ.length
      · rw [List.getElem?_set_self (by rw [wipe_length]; exact hl), List.getElem?_eq_getElem hl]
        rfl
      · rw [List.getElem?_eq_none (by rw [List.length_set, wipe_length]; omega), List.getElem?_eq_none (by omega)]
        rfl
    · rw [List.getElem?_set_ne h, wipe_get σ vs j]
      by_cases h2 : j ∈ vs
      · rw [if_pos h2, if_pos (List.mem_cons_of_mem _ h2)]
      · rw [if_neg h2, if_neg]
        intro z
        rcases List.mem_cons.mp z with z | z
        · exact h z.symm
        · exact h2 z
theorem wipe_eq {σ σ2 : L2.St} {vs : List Nat} (hl : σ2.length = (wipe σ vs).length) (h : ∀ j, j ∉ vs → σ2[j]? = (wipe σ vs)[j]?) : wipe σ2 vs = wipe σ vs := by
  refine List.ext_getElem? fun j => ?_
  by_cases hj : j ∈ vs
  · rw [wipe_get, wipe_get, if_pos hj, if_pos hj]
    rw [wipe_length] at hl
    by_cases hl2 : j < σ.length
    · rw [List.getElem?_eq_getElem (by omega), List.getElem?_eq_getElem hl2]
      rfl
    · rw [List.getElem?_eq_none (by omega), List.getElem?_eq_none (by omega)]
  · rw [wipe_get, if_neg hj, h j hj]
theorem EvOk.wipe {K : PySem.W.Frag} {H0 : Hp} {W : Wl} {σ : L2.St} {ρ : Ev} (h : EvOk K H0 W σ ρ) : ∀ vs : List Nat, EvOk K H0 W (L2.wipe σ vs) (wipeE ρ vs)
  | [] => h
  | v :: vs => (h.wipe vs).setNo v none
theorem later_of {m : Md} {W W' : Wl} (e : Ext W W') (s : Same W'.f W'.h) : Later m W W' := by
  cases m with
  | bo => exact ⟨e, s⟩
  | sh => exact ⟨e.ad, e.f, s⟩
  | ow => exact ⟨e.ad, e.f, s⟩

/-! ### the comprehension -/
section
variable {X : Cx} {W0 : Wl} {R : XR} {S T E : Ex} {elt tg iter : Expr} {ifs : List Expr} {scope : Scope} {pos : Pos} {own : List (Str × Nat)} {pt : Pt} {pr : Bool} {ms m : Md}
theorem lc_read {G : Sur} {σ : L2.St} {H : Hp} {Q : VK} (hp : pr = false ∨ ∃ is, pt = .many is) (hsub : ∀ j, j ∈ ptIx pt → j ∈ own.map (·.2)) (h : tE G W0 R m (.lc own pt S T E) σ H Q) :
    tLc (tI G W0 R pr ms S) (gP G.K pt) (tT G W0 (fun _ _ => False) T) (tE G W0 (fun _ _ => False) .sh E) (own.map (·.2)) σ H Q := by
  obtain ⟨W, S0, ρ, at_, h⟩ := h
  refine ⟨W, S0, ρ, at_, wp_mono _ _ _ _ _ _ _ (fun _ _ z => z) (fun d S1 q => opt_mono (fun ds q J W1 w1 e1 src D hD => ?_) q) h⟩
  obtain ⟨Gd, Y, wk, gd, itm⟩ := src.ex
  have e01 := at_.e0.trans e1
  have D0 : W.h D = none := none_back e1 hD
  refine lc_it wk (fun i H => ∃ W2 S2 acc avs, W2.h = H ∧ Wd G W2 S2 ∧ Ext W1 W2 ∧ H D = some (.lst avs) ∧ RepL G.K W2 avs acc ∧ D ∉ W2.ad ∧ W2.f D = none ∧
    wpLc (fun x S2 k => opt (bindP pt x (wipeE ρ (own.map (·.2)))) fun ρ' => wp T (fun _ _ => False) ρ' S2 fun t S3 => opt (tru t) fun c => match c with
        | true => wp E (fun _ _ => False) ρ' S3 fun d S4 => k (some d) S4
        | false => k none S3) (ds.drop i) acc S2 fun acc S5 => wish G m W S5 (.lst acc) Q) ?_ ?_ ?_ ?_
  · exact ⟨W1.own D (.lst []), S1, [], [], rfl, w1.own hD, w1.ext_own hD, upd_same, .nil, w1.not_ad hD, w1.none_f hD, q⟩
  · rintro i _ _ ⟨W2, S2, acc, avs, rfl, w2, e2, _⟩
    exact gd W2 (later_of e2 w2.sub)
  · rintro i x _ H' hi ⟨W2, S2, acc, avs, rfl, w2, e2, hq, hr, ha, hf, hw⟩ y
    have hi' : ds[i]? = some ds[i] := List.getElem?_eq_getElem hi
    have it := itm W2 i _ x H' (later_of e2 w2.sub) hi' y
    rw [List.drop_eq_getElem_cons hi] at hw
    obtain ⟨ρ', hb, hw⟩ := opt_eq hw
    have hn : W2.h D ≠ none := by rw [hq]; exact fun z => nomatch z
    refine pat_read w2 (((at_.ev.mono e1).mono e2).wipe (own.map (·.2))) it hp hb fun σ' W3 w3 e3 ev3 hl hj => ⟨wipe_eq hl fun j n => hj j fun z => n (hsub j z), ?_⟩
    refine ⟨W3, S2, ρ', ⟨rfl, w3, e01.trans (e2.trans e3), ev3⟩, wp_mono _ _ _ _ _ _ _ (fun _ _ z => z) (fun t S3 q5 => opt_mono (fun c q6 W4 w4 e4 => ?_) q5) hw⟩
    cases c with
    | true =>
      rw [if_pos rfl]
      refine ⟨W4, S3, ρ', ⟨rfl, w4, e01.trans (e2.trans (e3.trans e4)), ev3.mono e4⟩, wp_mono _ _ _ _ _ _ _ (fun _ _ z => z) (fun dd S4 q7 z W5 w5 e5 r5 => ?_) q6⟩
      have e25 : Ext W2 W5 := e3.trans (e4.trans e5)
      have hf5 : W5.f D = none := e25.fr D ha hf hn
      have ha5 : D ∉ W5.ad := fun z => (e25.nw D z).elim ha hn
      have r5' : Rep G.K W5 z dd := r5
      refine ⟨avs, e25.h D _ hq ha, by rw [hr.length]; exact q7.1, W5.own D (.lst (avs ++ [z])), S4, acc ++ [dd], avs ++ [z], rfl, w5.chg hf5 ha5, (e2.trans e25).chg hD, upd_same, ?_, ha5, hf5, q7.2⟩
      exact ((hr.mono e25).append (.cons r5' .nil)).own
    | false =>
      rw [if_neg Bool.false_ne_true]
      have e24 : Ext W2 W4 := e3.trans e4
      exact ⟨W4, S3, acc, avs, rfl, w4, e2.trans e24, e24.h D _ hq ha, hr.mono e24, fun z => (e24.nw D z).elim ha hn, e24.fr D ha hf hn, q6⟩
  · rintro _ ⟨W2, S2, acc, avs, rfl, w2, e2, hq, hr, ha, hf, hw⟩
    rw [List.drop_length] at hw
    exact wish.done (show wish G m W S2 (.lst acc) Q from hw) w2 (e1.trans e2) D0 hq hr hf ha
theorem r_lc (hc : X.calm = true) (hN : X.N.Nodup) (hi : PI X tg iter (tI (sur X) W0 R pr ms S)) (ok : BlkOk X.N X.env.scope scope own) (hp : pr = false ∨ ∃ is, pt = .many is) (hsub : ∀ j, j ∈ ptIx pt → j ∈ own.map (·.2))
    (hg : ∀ (s : Shared) (H : Hp) (C : Addr) (cl : List (Str × Addr)) (fp : List Addr), PG (X.blk s H scope (compEnvC scope cl C X.env) fp) tg (gP X.K pt))
    (ht : ∀ (s : Shared) (H : Hp) (C : Addr) (cl : List (Str × Addr)) (fp : List Addr), PTs (X.blk s H scope (compEnvC scope cl C X.env) fp) ifs (tT (sur X) W0 (fun _ _ => False) T))
    (he : ∀ (s : Shared) (H : Hp) (C : Addr) (cl : List (Str × Addr)) (fp : List Addr), PE (X.blk s H scope (compEnvC scope cl C X.env) fp) elt (tE (sur X) W0 (fun _ _ => False) .sh E)) (hs : ∀ x, foldedSetIterable iter X.env x = pure x) :
    PE X (.ListComp elt [⟨tg, iter, ifs, 0⟩] scope pos) (tE (sur X) W0 R m (.lc own pt S T E)) :=
  PE.imp (pe_lc hc hN hi ok hg ht he hs) fun σ H Q h => lc_read hp hsub h
theorem r_setLc {i : Nat} {y : Str} {py spos : Pos} (hc : X.calm = true) (hN : X.N.Nodup) (hy : X.N[i]? = some y) (hyl : X.env.scope.names.lookup y = some .local)
    (hsw : swapsWith (.ListComp elt [⟨tg, iter, ifs, 0⟩] scope pos) (some (.Name y py)) spos.line X.env = pure true) (hi : PI X tg iter (tI (sur X) W0 R pr ms S)) (ok : BlkOk X.N X.env.scope scope own) (hp : pr = false ∨ ∃ is, pt = .many is) (hsub : ∀ j, j ∈ ptIx pt → j ∈ own.map (·.2))
    (hg : ∀ (s : Shared) (H : Hp) (C : Addr) (cl : List (Str × Addr)) (fp : List Addr), PG (X.blk s H scope (compEnvC scope cl C X.env) fp) tg (gP X.K pt))
    (ht : ∀ (s : Shared) (H : Hp) (C : Addr) (cl : List (Str × Addr)) (fp : List Addr), PTs (X.blk s H scope (compEnvC scope cl C X.env) fp) ifs (tT (sur X) W0 (fun _ _ => False) T))
    (he : ∀ (s : Shared) (H : Hp) (C : Addr) (cl : List (Str × Addr)) (fp : List Addr), PE (X.blk s H scope (compEnvC scope cl C X.env) fp) elt (tE (sur X) W0 (fun _ _ => False) .sh E)) (hs : ∀ x, foldedSetIterable iter X.env x = pure x) :
    PS X (.Assign [.Name y py] (.ListComp elt [⟨tg, iter, ifs, 0⟩] scope pos) spos) (tAsg (tE (sur X) W0 R m (.lc own pt S T E)) (gName i)) :=
  ⟨fun pins s σ H D I h => (ps_setLc hc hN hy hyl hsw hi ok hg ht he hs).run pins s σ H D I (lc_read hp hsub h)⟩
theorem pts_no (h : T = .con (.bool true)) : PTs X [] (tT (sur X) W0 R T) :=
  ⟨fun pins s σ H Q I q => pts_nil.run pins s σ H Q I (by
    subst h
    obtain ⟨W, S, ρ, at_, h⟩ := q
    show Q true H
    rw [← at_.h]
    exact h W at_.w (Ext.refl W))⟩
end
end Vr

/-! Comprehensions of two clauses. -/
namespace Vr
open PySem PySem.Spec PyProof.Rows L2

def Free (ρ : Ev) : Prop := ∀ (i : Nat) (ds : List Dt), ρ[i]? ≠ some (.ow ds)
theorem noOw_free (ρ : Ev) : Free (noOw ρ) := fun i ds h => by
  unfold noOw at h
  rw [List.getElem?_map] at h
  obtain ⟨s, h1, h2⟩ := Option.map_eq_some_iff.mp h
  cases s <;> cases h2
theorem EvOk.noOw {K : PySem.W.Frag} {H0 : Hp} {W : Wl} {σ : L2.St} {ρ : Ev} (h : EvOk K H0 W σ ρ) : EvOk K H0 W σ (noOw ρ) := by
  refine ⟨by rw [h.len]; unfold Vr.noOw; rw [List.length_map], fun i s q => ?_, fun i j ds es l q1 => absurd q1 (noOw_free ρ i ds)⟩
  unfold Vr.noOw at q
  rw [List.getElem?_map] at q
  obtain ⟨t, h1, h2⟩ := Option.map_eq_some_iff.mp q
  obtain ⟨x, h3, h4⟩ := h.at_ i t h1
  refine ⟨x, h3, ?_⟩
  cases t with
  | no => subst h2; exact trivial
  | sh d => subst h2; exact h4
  | ow ds => subst h2; exact trivial
theorem Free.set {ρ : Ev} (h : Free ρ) (i : Nat) {s : Sl} (hs : ∀ ds, s ≠ .ow ds) : Free (ρ.set i s) := fun j ds e => by
  by_cases q : i = j
  · subst q
    have hi : i < ρ.length := by
      have := (List.getElem?_eq_some_iff.mp e).1
      rwa [List.length_set] at this
    rw [List.getElem?_set_self hi] at e
    exact hs ds (Option.some.inj e)
  · rw [List.getElem?_set_ne q] at e
    exact h j ds e
theorem Free.wipe {ρ : Ev} (h : Free ρ) : ∀ vs : List Nat, Free (wipeE ρ vs)
  | [] => h
  | v :: vs => (h.wipe vs).set v fun ds z => nomatch z
theorem free_bindL : ∀ (is : List Nat) (ds : List Dt) (ρ ρ' : Ev), Free ρ → bindL is ds ρ = some ρ' → Free ρ'
  | [], [], _, _, h, e => by cases e; exact h
  | i :: is, d :: ds, ρ, ρ', h, e => free_bindL is ds (ρ.set i (.sh d)) ρ' (h.set i (s := .sh d) (fun ds z => by cases z)) e
  | [], _ :: _, _, _, _, e => by cases e
  | _ :: _, [], _, _, _, e => by cases e
theorem Free.bindP {pt : Pt} {d : Dt} {ρ ρ' : Ev} (h : Free ρ) (e : bindP pt d ρ = some ρ') : Free ρ' := by
  cases pt with
  | one i => cases e; exact h.set i fun ds z => nomatch z
  | many is =>
    cases d with
    | tup ds => exact free_bindL is ds _ _ h e
    | _ => cases e
theorem EvOk.grown {K : PySem.W.Frag} {H0 : Hp} {W W' : Wl} {σ : L2.St} {ρ : Ev} (h : EvOk K H0 W σ ρ) (f : Free ρ) (ha : W.ad <+: W'.ad) (hf : Same W.f W'.f) : EvOk K H0 W' σ ρ := by
  refine ⟨h.len, fun i s q => ?_, fun i j ds es l q1 => absurd q1 (f i ds)⟩
  obtain ⟨x, h3, h4⟩ := h.at_ i s q
  refine ⟨x, h3, ?_⟩
  cases s with
  | no => trivial
  | sh d => obtain ⟨v, h5, h6⟩ := h4; exact ⟨v, h5, h6.grow ha hf⟩
  | ow ds => exact absurd q (f i ds)
/-- the inner turns, the outer ones -/
def innT (pt1 : Pt) (js : List Nat) (T1 E : Ex) (ρ' : Ev) (y : Dt) (Sb : Store) (k1 : Option Dt → Store → Prop) : Prop := opt (bindP pt1 y (wipeE ρ' js)) fun ρ2 => wp T1 (fun _ _ => False) ρ2 Sb fun t1 Sc => opt (tru t1) fun c1 => match c1 with
  | true => wp E (fun _ _ => False) ρ2 Sc fun d2 Sd => k1 (some d2) Sd
  | false => k1 none Sc
def outT (own : List (Str × Nat)) (pt : Pt) (T : Ex) (js : List Nat) (pt1 : Pt) (S1 T1 E : Ex) (ρ : Ev) (x : Dt) (acc : List Dt) (Sb : Store) (k : List Dt → Store → Prop) : Prop := opt (bindP pt x (wipeE (noOw ρ) (own.map (·.2)))) fun ρ' => wp T (fun _ _ => False) ρ' Sb fun t Sc => opt (tru t) fun c => match c with
  | true => wp S1 (fun _ _ => False) ρ' Sc fun d1 Sd => opt (items d1) fun es => wpLc (innT pt1 js T1 E ρ') es acc Sd k
  | false => k acc Sc
section
variable {X : Cx} {W0 : Wl} {R : XR} {S T S1 T1 E : Ex} {elt tg iter tg1 iter1 : Expr} {ifs ifs1 : List Expr} {scope : Scope} {pos : Pos} {own : List (Str × Nat)} {js : List Nat} {pt pt1 : Pt} {pr pr1 : Bool} {ms m : Md}
theorem lc2_read {G : Sur} {σ : L2.St} {H : Hp} {Q : VK} (hp : pr = false ∨ ∃ is, pt = .many is) (hp1 : pr1 = false ∨ ∃ is, pt1 = .many is) (hsub : ∀ j, j ∈ ptIx pt → j ∈ own.map (·.2)) (hsub1 : ∀ j, j ∈ ptIx pt1 → j ∈ js) (h : tE G W0 R m (.lc2 own pt S T js pt1 S1 T1 E) σ H Q) :
    tLc2 (tI G W0 R pr ms S) (gP G.K pt) (tT G W0 (fun _ _ => False) T) (tI G W0 (fun _ _ => False) pr1 .sh S1) (gP G.K pt1) (tT G W0 (fun _ _ => False) T1) (tE G W0 (fun _ _ => False) .sh E) (own.map (·.2)) js σ H Q := by
  obtain ⟨W, S0, ρ, at_, h⟩ := h
  refine ⟨W, S0, ρ, at_, wp_mono _ _ _ _ _ _ _ (fun _ _ z => z) (fun d Sa q => opt_mono (fun ds q J Wa wa ea src D hD => ?_) q) h⟩
  obtain ⟨Gd, Y, wk, gd, itm⟩ := src.ex
  have e01 := at_.e0.trans ea
  have D0 : W.h D = none := none_back ea hD
  have q : wpLL (outT own pt T js pt1 S1 T1 E ρ) ds [] Sa fun acc S5 => wish G m W S5 (.lst acc) Q := q
  have Pv : ∃ Pv : Nat → Hp → Prop, Pv = fun i H => ∃ W2 S2 acc avs, W2.h = H ∧ Wd G W2 S2 ∧ Ext Wa W2 ∧ H D = some (.lst avs) ∧ RepL G.K W2 avs acc ∧ D ∉ W2.ad ∧ W2.f D = none ∧ wpLL (outT own pt T js pt1 S1 T1 E ρ) (ds.drop i) acc S2 (fun acc S5 => wish G m W S5 (.lst acc) Q) := ⟨_, rfl⟩
  obtain ⟨Pv, ePv⟩ := Pv
  refine ⟨fun i n H => n = ds.length - i ∧ i ≤ ds.length ∧ Pv i H, ⟨ds.length, by simp, Nat.zero_le _, ?_⟩, ?_⟩
  · rw [ePv]
    exact ⟨Wa.own D (.lst []), Sa, [], [], rfl, wa.own hD, wa.ext_own hD, upd_same, .nil, wa.not_ad hD, wa.none_f hD, q⟩
  rintro i n H2 ⟨rfl, hi, p⟩
  rw [ePv] at p
  obtain ⟨W2, S2, acc, avs, rfl, w2, e2, hq, hr, ha, hf, hw⟩ := p
  by_cases hlt : i < ds.length
  · refine .inr ⟨wk.goes i _ hlt (gd W2 (later_of e2 w2.sub)), Pv (i + 1), fun H' p' => ⟨ds.length - (i + 1), by omega, rfl, hlt, p'⟩, fun x H' y => ?_⟩
    have y := wk.yields i _ x H' hlt (gd W2 (later_of e2 w2.sub)) y
    have hi' : ds[i]? = some ds[i] := List.getElem?_eq_getElem hlt
    have it := itm W2 i _ x H' (later_of e2 w2.sub) hi' y
    rw [List.drop_eq_getElem_cons hlt] at hw
    obtain ⟨ρ', hb, hw⟩ := opt_eq (show opt (bindP pt ds[i] (wipeE (noOw ρ) (own.map (·.2)))) _ from hw)
    have hn : W2.h D ≠ none := by rw [hq]; exact fun z => nomatch z
    have fr : Free ρ' := ((noOw_free ρ).wipe _).bindP hb
    refine pat_read w2 ((((at_.ev.mono ea).mono e2).noOw).wipe (own.map (·.2))) it hp hb fun σ' W3 w3 e3 ev3 hl hj => ⟨wipe_eq hl fun j n => hj j fun z => n (hsub j z), ?_⟩
    refine ⟨W3, S2, ρ', ⟨rfl, w3, e01.trans (e2.trans e3), ev3⟩, wp_mono _ _ _ _ _ _ _ (fun _ _ z => z) (fun t S3 q5 => opt_mono (fun c q6 W4 w4 e4 => ?_) q5) hw⟩
    cases c with
    | false =>
      rw [if_neg Bool.false_ne_true, ePv]
      have e24 : Ext W2 W4 := e3.trans e4
      exact ⟨W4, S3, acc, avs, rfl, w4, e2.trans e24, e24.h D _ hq ha, hr.mono e24, fun z => (e24.nw D z).elim ha hn, e24.fr D ha hf hn, q6⟩
    | true =>
      rw [if_pos rfl]
      refine ⟨W4, S3, ρ', ⟨rfl, w4, e01.trans (e2.trans (e3.trans e4)), ev3.mono e4⟩, wp_mono _ _ _ _ _ _ _ (fun _ _ z => z) (fun d1 S4 q7 => opt_mono (fun es q8 J1 W5 w5 e5 src1 => ?_) q7) q6⟩
      obtain ⟨Gd1, Y1, wk1, gd1, itm1⟩ := src1.ex
      have e25 : Ext W2 W5 := e3.trans (e4.trans e5)
      have ev5 : EvOk G.K W0.h W5 σ' ρ' := (ev3.mono e4).mono e5
      have Pw : ∃ Pw : Nat → Hp → Prop, Pw = fun j H => ∃ W6 S6 acc avs, W6.h = H ∧ Wd G W6 S6 ∧ Ext Wa W6 ∧ W5.ad <+: W6.ad ∧ Same W5.f W6.f ∧ H D = some (.lst avs) ∧ RepL G.K W6 avs acc ∧ D ∉ W6.ad ∧ W6.f D = none ∧ wpLc (innT pt1 js T1 E ρ') (es.drop j) acc S6 (fun acc' Se => wpLL (outT own pt T js pt1 S1 T1 E ρ) (ds.drop (i + 1)) acc' Se (fun acc S5 => wish G m W S5 (.lst acc) Q)) := ⟨_, rfl⟩
      obtain ⟨Pw, ePw⟩ := Pw
      refine ⟨fun j n H => n = es.length - j ∧ j ≤ es.length ∧ Pw j H, ⟨es.length, by simp, Nat.zero_le _, ?_⟩, ?_⟩
      · rw [ePw]
        exact ⟨W5, S4, acc, avs, rfl, w5, e2.trans e25, List.prefix_refl _, Same.refl _, e25.h D _ hq ha, hr.mono e25, fun z => (e25.nw D z).elim ha hn, e25.fr D ha hf hn, q8⟩
      rintro j n H6 ⟨rfl, hj1, p6⟩
      rw [ePw] at p6
      obtain ⟨W6, S6, acc6, avs6, rfl, w6, e6, a6, f6, hq6, hr6, ha6, hf6, hw6⟩ := p6
      have lt6 : Later .sh W5 W6 := ⟨a6, f6, w6.sub⟩
      by_cases hlt1 : j < es.length
      · refine .inr ⟨wk1.goes j _ hlt1 (gd1 W6 lt6), Pw (j + 1), fun H' p' => ⟨es.length - (j + 1), by omega, rfl, hlt1, p'⟩, fun x H' y => ?_⟩
        have y := wk1.yields j _ x H' hlt1 (gd1 W6 lt6) y
        have it1 := itm1 W6 j _ x H' lt6 (List.getElem?_eq_getElem hlt1) y
        rw [List.drop_eq_getElem_cons hlt1] at hw6
        obtain ⟨ρ2, hb2, hw6⟩ := opt_eq (show opt (bindP pt1 es[j] (wipeE ρ' js)) _ from hw6)
        have hn6 : W6.h D ≠ none := by rw [hq6]; exact fun z => nomatch z
        refine pat_read w6 ((ev5.grown fr a6 f6).wipe js) it1 hp1 hb2 fun σ7 W7 w7 e7 ev7 hl7 hj7 => ⟨wipe_eq hl7 fun j n => hj7 j fun z => n (hsub1 j z), ?_⟩
        have e0W7 : Ext W0 W7 := at_.e0.trans (ea.trans (e6.trans e7))
        refine ⟨W7, S6, ρ2, ⟨rfl, w7, e0W7, ev7⟩, wp_mono _ _ _ _ _ _ _ (fun _ _ z => z) (fun t1 S8 q9 => opt_mono (fun c1 q10 W8 w8 e8 => ?_) q9) hw6⟩
        have e68 : Ext W6 W8 := e7.trans e8
        dsimp only
        cases c1 with
        | true =>
          rw [if_pos rfl]
          refine ⟨W8, S8, ρ2, ⟨rfl, w8, e0W7.trans e8, ev7.mono e8⟩, wp_mono _ _ _ _ _ _ _ (fun _ _ z => z) (fun dd S9 q11 z W9 w9 e9 r9 => ?_) q10⟩
          have e69 : Ext W6 W9 := e68.trans e9
          have hf9 : W9.f D = none := e69.fr D ha6 hf6 hn6
          have ha9 : D ∉ W9.ad := fun z => (e69.nw D z).elim ha6 hn6
          have r9' : Rep G.K W9 z dd := r9
          refine ⟨avs6, e69.h D _ hq6 ha6, by rw [hr6.length]; exact q11.1, ?_⟩
          rw [ePw]
          refine ⟨W9.own D (.lst (avs6 ++ [z])), S9, acc6 ++ [dd], avs6 ++ [z], rfl, w9.chg hf9 ha9, (e6.trans e69).chg hD, a6.trans e69.ad, f6.trans e69.f, upd_same, ?_, ha9, hf9, q11.2⟩
          exact ((hr6.mono e69).append (.cons r9' .nil)).own
        | false =>
          rw [if_neg Bool.false_ne_true, ePw]
          exact ⟨W8, S8, acc6, avs6, rfl, w8, e6.trans e68, a6.trans e68.ad, f6.trans e68.f, e68.h D _ hq6 ha6, hr6.mono e68, fun z => (e68.nw D z).elim ha6 hn6, e68.fr D ha6 hf6 hn6, q10⟩
      · have e : j = es.length := by omega
        subst e
        rw [List.drop_length] at hw6
        refine .inl ⟨wk1.stops _ (gd1 W6 lt6), ?_⟩
        rw [ePv]
        exact ⟨W6, S6, acc6, avs6, rfl, w6, e6, hq6, hr6, ha6, hf6, hw6⟩
  · have e : i = ds.length := by omega
    subst e
    rw [List.drop_length] at hw
    exact .inl ⟨wk.stops _ (gd W2 (later_of e2 w2.sub)), wish.done (show wish G m W S2 (.lst acc) Q from hw) w2 (ea.trans e2) D0 hq hr hf ha⟩
theorem r_lc2 (hc : X.calm = true) (hN : X.N.Nodup) (hi : PI X tg iter (tI (sur X) W0 R pr ms S)) (ok : BlkOk X.N X.env.scope scope own) (hp : pr = false ∨ ∃ is, pt = .many is) (hp1 : pr1 = false ∨ ∃ is, pt1 = .many is) (hsub : ∀ j, j ∈ ptIx pt → j ∈ own.map (·.2)) (hsub1 : ∀ j, j ∈ ptIx pt1 → j ∈ js) (hjs : ∀ j ∈ js, j ∈ own.map (·.2))
    (hg : ∀ (s : Shared) (H : Hp) (C : Addr) (cl : List (Str × Addr)) (fp : List Addr), PG (X.blk s H scope (compEnvC scope cl C X.env) fp) tg (gP X.K pt))
    (ht : ∀ (s : Shared) (H : Hp) (C : Addr) (cl : List (Str × Addr)) (fp : List Addr), PTs (X.blk s H scope (compEnvC scope cl C X.env) fp) ifs (tT (sur X) W0 (fun _ _ => False) T))
    (hi1 : ∀ (s : Shared) (H : Hp) (C : Addr) (cl : List (Str × Addr)) (fp : List Addr), PI (X.blk s H scope (compEnvC scope cl C X.env) fp) tg1 iter1 (tI (sur X) W0 (fun _ _ => False) pr1 .sh S1))
    (hg1 : ∀ (s : Shared) (H : Hp) (C : Addr) (cl : List (Str × Addr)) (fp : List Addr), PG (X.blk s H scope (compEnvC scope cl C X.env) fp) tg1 (gP X.K pt1))
    (ht1 : ∀ (s : Shared) (H : Hp) (C : Addr) (cl : List (Str × Addr)) (fp : List Addr), PTs (X.blk s H scope (compEnvC scope cl C X.env) fp) ifs1 (tT (sur X) W0 (fun _ _ => False) T1))
    (he : ∀ (s : Shared) (H : Hp) (C : Addr) (cl : List (Str × Addr)) (fp : List Addr), PE (X.blk s H scope (compEnvC scope cl C X.env) fp) elt (tE (sur X) W0 (fun _ _ => False) .sh E)) (hs : ∀ x, foldedSetIterable iter X.env x = pure x) (hs1 : ∀ env x, foldedSetIterable iter1 env x = pure x) :
    PE X (.ListComp elt [⟨tg, iter, ifs, 0⟩, ⟨tg1, iter1, ifs1, 0⟩] scope pos) (tE (sur X) W0 R m (.lc2 own pt S T js pt1 S1 T1 E)) :=
  PE.imp (pe_lc2 hc hN hi ok hjs hg ht hi1 hg1 ht1 he hs hs1) fun σ H Q h => lc2_read hp hp1 hsub hsub1 h
end
end Vr

/-! Lists of our own from which is popped. -/
namespace Vr
open PySem PySem.Spec PyProof.Rows L2

/-- a list of our own changes -/
theorem EvOk.chgOw {K : PySem.W.Frag} {H0 : Hp} {W : Wl} {σ : L2.St} {ρ : Ev} (h : EvOk K H0 W σ ρ) {i : Nat} {ds ds' : List Dt} {l : Addr} {vs' : List V} (hi : ρ[i]? = some (.ow ds)) (hl : σ[i]? = some (some (.ref l))) (o : Own K H0 W l ds) (r : RepL K W vs' ds') :
    EvOk K H0 (W.own l (.lst vs')) σ (ρ.set i (.ow ds')) := by
  refine ⟨by rw [List.length_set]; exact h.len, fun j s q => ?_, fun j k es fs l' q1 q2 q3 q4 => ?_⟩
  · by_cases e : i = j
    · subst e
      have hlt : i < ρ.length := (List.getElem?_eq_some_iff.mp hi).1
      rw [List.getElem?_set_self hlt] at q
      cases q
      exact ⟨_, hl, l, rfl, ⟨vs', upd_same, r.own⟩, o.f, o.ad, o.new⟩
    · rw [List.getElem?_set_ne e] at q
      obtain ⟨x, e1, e2⟩ := h.at_ j s q
      refine ⟨x, e1, ?_⟩
      cases s with
      | no => trivial
      | sh d =>
        obtain ⟨v, rfl, r⟩ := e2
        exact ⟨v, rfl, r.own⟩
      | ow es =>
        obtain ⟨l', rfl, ⟨us, o1, o2⟩, o3, o4, o5⟩ := e2
        have ne : l' ≠ l := by
          rintro rfl
          exact e (h.ne i j _ _ l' hi q hl e1)
        exact ⟨l', rfl, ⟨us, (upd_ne ne).trans o1, o2.own⟩, o3, o4, o5⟩
  · have g : ∀ (j : Nat) (es : List Dt), (ρ.set i (.ow ds'))[j]? = some (.ow es) → ∃ es', ρ[j]? = some (.ow es') := fun j es q => by
      by_cases e : i = j
      · subst e
        exact ⟨ds, hi⟩
      · rw [List.getElem?_set_ne e] at q
        exact ⟨es, q⟩
    obtain ⟨es', q1'⟩ := g j es q1
    obtain ⟨fs', q2'⟩ := g k fs q2
    exact h.ne j k es' fs' l' q1' q2' q3 q4

theorem seq_ix0 {n : Nat} (h : 0 < n) : seqIndex? 0 n = some 0 := by
  unfold seqIndex?
  simp [h]
/-- the reading of arguments of which the last is x.pop(0) -/
def tLp (G : Sur) (W0 : Wl) (R : XR) (i : Nat) (E : Ex) : TA := fun σ H Q => ∃ W S ρ, At G W0 σ H W S ρ ∧ wp E R ρ S fun d S' => match d, ρ[i]? with
  | .tup ds, some (.ow (p :: ps)) => ∀ zs W', W.ad <+: W'.ad → Same W.f W'.f → At G W0 σ W'.h W' S' (ρ.set i (.ow ps)) → RepL G.K W' zs (ds ++ [p]) → Q zs W'.h
  | _, _ => False
section
variable {X : Cx} {W0 : Wl} {R : XR} {a : Expr} {A B : Ex} {pos : Pos} {i : Nat}
theorem pop_own {G : Sur} {σ : L2.St} {W : Wl} {S : Store} {ρ : Ev} {p : Dt} {ps : List Dt} (at_ : At G W0 σ W.h W S ρ) (hi : ρ[i]? = some (.ow (p :: ps))) : ∃ l v vs, σ[i]? = some (some (.ref l)) ∧ W.h l = some (.lst (v :: vs)) ∧ Rep G.K W v p ∧ At G W0 σ (W.own l (.lst vs)).h (W.own l (.lst vs)) S (ρ.set i (.ow ps)) := by
  obtain ⟨x, h1, l, rfl, o⟩ := at_.ev.at_ i _ hi
  obtain ⟨vs, o1, o2⟩ := o.at_
  cases o2 with
  | cons r1 r2 => exact ⟨l, _, _, h1, o1, r1, rfl, at_.w.chg o.f o.ad, at_.e0.chg o.new, at_.ev.chgOw hi h1 o r2⟩
theorem r_popA {x : Str} {z : Nat} {p ap q cp : Pos} (hx : PE X (.Name x p) (fun σ H Q => ∃ v, σ[i]? = some (some v) ∧ Q v H)) (hl : (ap.endLine == cp.line) = true) : PA X [.Call (.Attribute (.Name x p) "pop" ap) [.Constant (.int 0) z q] [] cp] (tLp (sur X) W0 R i .nil) := by
  refine PA.imp (pa_cons (pe_bm PySem.F.plainAttrs_list PySem.F.slot_list_pop PySem.F.type_list_pop mt_popAt hx (pa_cons pe_int pa_nil (star_plain rfl)) (base_plain rfl) rfl hl (star_plain rfl) rfl) pa_nil (star_plain rfl)) fun σ H Q ⟨W, S, ρ, at_, h⟩ => ?_
  have h : (match (Dt.tup []), ρ[i]? with
    | .tup ds, some (.ow (p :: ps)) => ∀ zs W', W.ad <+: W'.ad → Same W.f W'.f → At (sur X) W0 σ W'.h W' S (ρ.set i (.ow ps)) → RepL X.K W' zs (ds ++ [p]) → Q zs W'.h
    | _, _ => False) := h
  split at h
  · rename_i ds p ps e1 e2
    cases e1
    have at2 : At (sur X) W0 σ W.h W S ρ := by
      have := at_.h
      subst this
      exact at_
    obtain ⟨l, v, vs, h1, h2, h3, a2⟩ := pop_own at2 e2
    refine ⟨.ref l, h1, .inl ⟨rfl, _, SqL.of (by rw [← at_.h]; exact h2)⟩, ?_⟩
    refine ⟨l, v :: vs, 0, 0, v, rfl, rfl, by rw [← at_.h]; exact h2, by decide, by decide, seq_ix0 (by simp), rfl, ?_⟩
    have := h [v] (W.own l (.lst vs)) (List.prefix_refl _) (Same.refl _) a2 (.cons h3.own .nil)
    rw [← at_.h]
    exact this
  · exact h.elim
theorem r_consP {es : List Expr} (hn : noStar a = true) (ha : PE X a (tE (sur X) W0 R .sh A)) (hb : PA X es (tLp (sur X) W0 R i B)) : PA X (a :: es) (tLp (sur X) W0 R i (.cons A B)) :=
  PA.imp (pa_cons ha hb (star_plain hn)) fun σ H Q ⟨W, S, ρ, at_, h⟩ => one (m := .sh) at_ h fun x d W1 S1 a1 e1 r1 q => by
    refine ⟨W1, S1, ρ, a1, wp_mono _ _ _ _ _ _ _ (fun _ _ z => z) (fun r S2 q2 => ?_) q⟩
    cases r with
    | tup ds =>
      dsimp only at q2 ⊢
      split at q2
      · rename_i ds' p ps e1' e2
        cases e1'
        rw [e2]
        intro zs W2 p2 f2 a2 r2
        have r1' : Rep X.K W1 x d := r1
        exact q2 (x :: zs) W2 (e1.ad.trans p2) (e1.f.trans f2) a2 (.cons (r1'.grow p2 f2) r2)
      · exact q2.elim
    | _ => exact q2.elim
end
end Vr

/-! Objects: fields, methods, properties, making, the special methods. -/
namespace Vr
open PySem PySem.Spec PyProof.Rows L2

/-! ### fields by data -/
theorem RepF.look {K : PySem.W.Frag} {W : Wl} {x : Str} : ∀ {vs : List (Str × V)} {ds : List (Str × Dt)}, RepF K W vs ds → (∀ d, ds.lookup x = some d → ∃ v, vs.lookup x = some v ∧ Rep K W v d) ∧ (ds.lookup x = none → vs.lookup x = none)
  | [], [], _ => ⟨(fun d e => nomatch e), fun _ => rfl⟩
  | (y, v) :: vs, (z, d) :: ds, h => by
    obtain ⟨rfl, h1, h2⟩ := h
    obtain ⟨i1, i2⟩ := RepF.look (x := x) h2
    cases q : (x == y) with
    | true => simp only [List.lookup, q]; exact ⟨fun d' e => ⟨v, rfl, Option.some.inj e ▸ h1⟩, (fun e => nomatch e)⟩
    | false => simp only [List.lookup, q]; exact ⟨i1, i2⟩
  | [], _ :: _, h => h.elim
  | _ :: _, [], h => h.elim
theorem RepF.len {K : PySem.W.Frag} {W : Wl} : ∀ {vs : List (Str × V)} {ds : List (Str × Dt)}, RepF K W vs ds → vs.length = ds.length
  | [], [], _ => rfl
  | (y, v) :: vs, (z, d) :: ds, h => by rw [List.length_cons, List.length_cons, RepF.len h.2.2]
  | [], _ :: _, h => h.elim
  | _ :: _, [], h => h.elim
theorem RepF.put {K : PySem.W.Frag} {W : Wl} {x : Str} {v : V} {d : Dt} (r : Rep K W v d) : ∀ {vs : List (Str × V)} {ds : List (Str × Dt)}, RepF K W vs ds → RepF K W (putF x v vs) (putD x d ds)
  | [], [], _ => ⟨rfl, r, trivial⟩
  | (y, u) :: vs, (z, e) :: ds, h => by
    obtain ⟨rfl, h1, h2⟩ := h
    unfold putF putD
    by_cases q : y = x
    · rw [if_pos q, if_pos q]
      exact ⟨rfl, r, h2⟩
    · rw [if_neg q, if_neg q]
      exact ⟨rfl, h1, RepF.put r h2⟩
  | [], _ :: _, h => h.elim
  | _ :: _, [], h => h.elim
theorem RepF.own {K : PySem.W.Frag} {W : Wl} {l : Addr} {o : HO} {vs : List (Str × V)} {ds : List (Str × Dt)} (h : RepF K W vs ds) : RepF K (W.own l o) vs ds := RepF.grow (W := W) (W' := W.own l o) (List.prefix_refl _) (Same.refl _) h
theorem Rep.ownO {K : PySem.W.Frag} {W : Wl} {l : Addr} {o : HO} {v : V} {d : Dt} (h : Rep K W v d) : Rep K (W.own l o) v d := Rep.grow (W := W) (W' := W.own l o) (List.prefix_refl _) (Same.refl _) h
/-- the object that a handle stands for -/
theorem Wd.ob {G : Sur} {W : Wl} {S : Store} (w : Wd G W S) {k : Nat} {c : Str} {fs : List (Str × Dt)} {v : V} (hk : S[k]? = some (.obj c fs)) (r : Rep G.K W v (.hdl k)) :
    ∃ a C dx vs, v = .ref a ∧ W.ad[k]? = some a ∧ G.mg c = some (.ref C) ∧ W.h a = some (.ins C dx vs) ∧ RepF G.K W vs fs ∧ W.f a = none := by
  cases r with
  | hdl ha =>
    obtain ⟨a', h1, h2, C, dx, vs, h3, h4, h5⟩ := w.res k _ hk
    rw [ha] at h1
    cases h1
    exact ⟨_, C, dx, vs, rfl, ha, h3, h4, h5, h2⟩
theorem RepB.hdl {K : PySem.W.Frag} {W : Wl} {v : V} {k : Nat} (h : RepB K W v (.hdl k)) : Rep K W v (.hdl k) := by
  rcases h with h | ⟨_, e, _⟩
  · exact h
  · cases e
theorem nd_inj {α : Type} {xs : List α} (h : xs.Nodup) {i j : Nat} (hi : i < xs.length) (hj : j < xs.length) (e : xs[i] = xs[j]) : i = j := by
  have q := List.nodup_iff_pairwise_ne.mp h
  rw [List.pairwise_iff_getElem] at q
  rcases Nat.lt_trichotomy i j with z | z | z
  · exact absurd e (q i j hi hj z)
  · exact z
  · exact absurd e.symm (q j i hj hi z)
/-- a field of an object is stored -/
theorem Wd.fld {G : Sur} {W : Wl} {S : Store} (w : Wd G W S) {k : Nat} {c : Str} {fs : List (Str × Dt)} {a C dx : Addr} {vs : List (Str × V)} {x : Str} {v : V} {d : Dt} (hk : S[k]? = some (.obj c fs)) (ha : W.ad[k]? = some a) (hC : G.mg c = some (.ref C)) (hf : RepF G.K W vs fs) (r : Rep G.K W v d) :
    Wd G (W.own a (.ins C dx (putF x v vs))) (S.set k (.obj c (putD x d fs))) := by
  have hm : a ∈ W.ad := List.mem_of_getElem? ha
  have hkS : k < S.length := (List.getElem?_eq_some_iff.mp hk).1
  obtain ⟨hfa, _⟩ := w.ad_of hm
  refine ⟨fun b u e => ?_, by rw [List.length_set]; exact w.len, w.nd, fun j r' e => ?_⟩
  · have ne : b ≠ a := by
      rintro rfl
      have e : W.f b = some u := e
      rw [hfa] at e
      cases e
    show upd W.h a _ b = some u
    rw [upd_ne ne]
    exact w.sub b u e
  · by_cases hj : k = j
    · subst hj
      rw [List.getElem?_set_self hkS] at e
      cases e
      exact ⟨a, ha, hfa, C, dx, _, hC, upd_same, (RepF.own hf).put r.ownO⟩
    · rw [List.getElem?_set_ne hj] at e
      obtain ⟨b, h1, h2, h3⟩ := w.res j r' e
      have ne : b ≠ a := by
        rintro rfl
        have l1 := (List.getElem?_eq_some_iff.mp ha)
        have l2 := (List.getElem?_eq_some_iff.mp h1)
        obtain ⟨p1, p2⟩ := l1
        obtain ⟨p3, p4⟩ := l2
        exact hj (nd_inj w.nd p1 p3 (p2.trans p4.symm))
      refine ⟨b, h1, h2, ?_⟩
      cases r' with
      | deck n =>
        obtain ⟨x', y', z', q1, q2⟩ := h3
        exact ⟨x', y', z', (upd_ne ne).trans q1, q2⟩
      | obj c' fs' =>
        obtain ⟨C', dx', vs', q1, q2, q3⟩ := h3
        exact ⟨C', dx', vs', q1, (upd_ne ne).trans q2, q3.own⟩
      | dct kvs => exact ⟨(upd_ne ne).trans h3.1, h3.2⟩
/-- a new object -/
abbrev Wl.mkO (W : Wl) (x dx C : Addr) : Wl := ⟨W.ad ++ [x], W.f, upd (upd W.h dx (.own x)) x (.ins C dx [])⟩
theorem Wd.mkO {G : Sur} {W : Wl} {S : Store} (w : Wd G W S) {c : Str} {x dx C : Addr} (hC : G.mg c = some (.ref C)) (h1 : W.h x = none) (h2 : W.h dx = none) (ne : dx ≠ x) : Wd G (W.mkO x dx C) (S ++ [.obj c []]) := by
  have old : ∀ b o, W.h b = some o → upd (upd W.h dx (.own x)) x (.ins C dx []) b = some o := fun b o e => by
    rw [upd_ne (ne_of_none e h1), upd_ne (ne_of_none e h2)]
    exact e
  refine ⟨fun b u e => old b u (w.sub b u e), by rw [List.length_append, List.length_append, w.len]; rfl, ?_, fun k r e => ?_⟩
  · rw [List.nodup_append]
    refine ⟨w.nd, by simp, fun a ha b hb => ?_⟩
    rw [List.mem_singleton] at hb
    subst hb
    rintro rfl
    exact w.not_ad h1 ha
  · by_cases hk : k < S.length
    · rw [List.getElem?_append_left hk] at e
      obtain ⟨a, p1, p2, p3⟩ := w.res k r e
      refine ⟨a, by rw [List.getElem?_append_left (by rw [w.len]; exact hk)]; exact p1, p2, ?_⟩
      cases r with
      | deck n =>
        obtain ⟨x', y', z', q1, q2⟩ := p3
        exact ⟨x', y', z', old _ _ q1, q2⟩
      | obj c' fs' =>
        obtain ⟨C', dx', vs', q1, q2, q3⟩ := p3
        exact ⟨C', dx', vs', q1, old _ _ q2, RepF.grow (W := W) (W' := W.mkO x dx C) (List.prefix_append ..) (Same.refl _) q3⟩
      | dct kvs => exact ⟨old _ _ p3.1, p3.2⟩
    · rw [List.getElem?_append_right (by omega)] at e
      have hk2 : k - S.length = 0 := by
        have := (List.getElem?_eq_some_iff.mp e).1
        simp at this
        omega
      rw [hk2] at e
      cases e
      refine ⟨x, ?_, w.none_f h1, C, dx, [], hC, upd_same, trivial⟩
      rw [List.getElem?_append_right (by rw [w.len]; omega), w.len, hk2]
      rfl
theorem Wd.extO {G : Sur} {W : Wl} {S : Store} (w : Wd G W S) {x dx C : Addr} (h1 : W.h x = none) (h2 : W.h dx = none) : Ext W (W.mkO x dx C) := by
  have old : ∀ b o, W.h b = some o → upd (upd W.h dx (.own x)) x (.ins C dx []) b = some o := fun b o e => by
    rw [upd_ne (ne_of_none e h1), upd_ne (ne_of_none e h2)]
    exact e
  refine ⟨List.prefix_append .., Same.refl _, fun a o e _ => old a o e, fun a _ e _ => e, fun a ha => ?_, fun a ha => ?_⟩
  · rcases List.mem_append.mp ha with ha | ha
    · exact .inl ha
    · rw [List.mem_singleton] at ha
      subst ha
      exact .inr h1
  · obtain ⟨_, o, e⟩ := w.ad_of ha
    exact .inl (by
      show upd _ _ _ a ≠ none
      rw [old a o e]
      exact fun z => nomatch z)

/-! ### what of the text -/
/-- a method's def -/
structure MthAt (G : Sur) (k : Nat) (c m : Str) (F : Fn) (C a : Addr) (fd : FuncData) (ps : List Str) : Prop where
  g : G.mg c = some (.ref C)
  cl : Cls G.K C
  mt : Meth G.K C m a
  ok : FnOk G.P G.w G.K G.mg G.base (L2.CX G.P G.w) k a fd ps (spF G F)
  bn : Binds G.K fd ps []
  fi : PySem.W.fnIn G.K a = true
  sq : PySem.W.noSeq G.K C = true
  sf : PySem.W.selfFirst G.K C = true
def MthFact (G : Sur) (k : Nat) (c m : Str) (F : Fn) : Prop := ∃ C a fd ps, MthAt G k c m F C a fd ps
def FldFact (G : Sur) (c x : Str) : Prop := ∃ C, G.mg c = some (.ref C) ∧ Cls G.K C ∧ NoAttr G.K C x
structure PropAt (G : Sur) (k : Nat) (c x : Str) (F : Fn) (C p a : Addr) (fd : FuncData) (ps : List Str) : Prop where
  g : G.mg c = some (.ref C)
  cl : Cls G.K C
  at_ : PropOf G.K C x p a
  ok : FnOk G.P G.w G.K G.mg G.base (L2.CX G.P G.w) k a fd ps (spF G F)
  bn : Binds G.K fd ps []
def PropFact (G : Sur) (k : Nat) (c x : Str) (F : Fn) : Prop := ∃ C p a fd ps, PropAt G k c x F C p a fd ps
structure MkAt (G : Sur) (k : Nat) (c : Str) (F : Fn) (C a : Addr) (fd : FuncData) (ps : List Str) : Prop where
  g : G.mg c = some (.ref C)
  mkc : Mk G.K C a
  ok : FnOk G.P G.w G.K G.mg G.base (L2.CX G.P G.w) k a fd ps (spF G F)
  bn : Binds G.K fd ps []
def MkFact (G : Sur) (k : Nat) (c : Str) (F : Fn) : Prop := ∃ C a fd ps, MkAt G k c F C a fd ps
theorem MthFact.mono {G : Sur} {j k : Nat} {c m : Str} {F : Fn} (h : MthFact G j c m F) (hl : j ≤ k) : MthFact G k c m F := by
  obtain ⟨C, a, fd, ps, h⟩ := h
  exact ⟨C, a, fd, ps, h.g, h.cl, h.mt, h.ok.mono hl, h.bn, h.fi, h.sq, h.sf⟩
theorem PropFact.mono {G : Sur} {j k : Nat} {c m : Str} {F : Fn} (h : PropFact G j c m F) (hl : j ≤ k) : PropFact G k c m F := by
  obtain ⟨C, p, a, fd, ps, h⟩ := h
  exact ⟨C, p, a, fd, ps, h.g, h.cl, h.at_, h.ok.mono hl, h.bn⟩
theorem MkFact.mono {G : Sur} {j k : Nat} {c : Str} {F : Fn} (h : MkFact G j c F) (hl : j ≤ k) : MkFact G k c F := by
  obtain ⟨C, a, fd, ps, h⟩ := h
  exact ⟨C, a, fd, ps, h.g, h.mkc, h.ok.mono hl, h.bn⟩
/-- isinstance against a class of the text -/
structure IscFact (G : Sur) (c : Str) : Prop where
  ex : ∃ C, G.mg c = some (.ref C) ∧ Cls G.K C ∧ PySem.W.findIn G.K (.ref C) "__class__" = some (some (.builtin "object.__class__")) ∧ PySem.W.specialIn G.K (.builtin "object.__class__") "__get__" = some (some (.builtin "getset_descriptor.__get__")) ∧
    PySem.W.takesIn G.K (.builtin "object.__class__") = some true ∧ PySem.W.mroIn G.K C (.type "object") = some true ∧ PySem.W.kitOne G.K (.ref C) (.ref C) = some true ∧ PySem.W.keepIn G.K (.ref C) = true ∧ ∀ t ∈ ["NoneType", "bool", "int", "str", "list", "tuple"], PySem.W.kitOne G.K (.type t) (.ref C) = some false

section
variable {X : Cx} {W0 : Wl} {R : XR} {a b c : Expr} {A B C : Ex} {pos : Pos}
theorem EXr.no {G : Sur} {W0 : Wl} {cls : Value} {dd : Option Addr} {H : Hp} (h : EXr G W0 (fun _ _ => False) cls dd H) : False := by
  obtain ⟨_, _, _, _, _, _, _, f⟩ := h
  exact f
/-- o.x -/
theorem r_fld (cn x : Str) {m : Md} (hm : m = .sh ∨ m = .bo) (ho : plainBase a = true) (ff : FldFact (sur X) cn x) (ha : PE X a (tE (sur X) W0 R .bo A)) : PE X (.Attribute a x pos) (tE (sur X) W0 R m (.fld cn x A)) := by
  obtain ⟨C, g1, g2, g3⟩ := ff
  refine PE.imp (pe_fld ha (base_plain ho)) fun σ H Q ⟨W, S, ρ, at_, h⟩ => ?_
  refine one (m := .bo) at_ h fun z d W1 S1 a1 e1 r1 q => ?_
  cases d with
  | hdl k =>
    dsimp only at q
    split at q
    · rename_i c' fs hk
      obtain ⟨rfl, q⟩ := q
      obtain ⟨d, hd, q⟩ := opt_eq q
      obtain ⟨p, C', dx, vs, rfl, p1, p2, p3, p4, p5⟩ := a1.w.ob hk (RepB.hdl r1)
      have e : C' = C := by
        have p2 : (sur X).mg c' = some (.ref C') := p2
        rw [g1] at p2
        exact (Value.ref.inj (Option.some.inj p2)).symm
      subst e
      obtain ⟨v, l1, l2⟩ := (p4.look (x := x)).1 d hd
      exact ⟨p, C', dx, vs, v, rfl, p3, g2, g3, l1, wish.now hm a1.w (wish.on q e1) l2⟩
    · exact q.elim
  | _ => exact q.elim

/-- a callee's promise at a call, by data -/
theorem sp_call {G : Sur} {F : Fn} {m : Md} {σ : L2.St} {W W1 : Wl} {S1 : Store} {ρ : Ev} {ds : List Dt} {zs : List V} {Q : VK} {P : Dt → Prop} {QV : VK} (hm : m = .ow → F.own = true) (a1 : At G W0 σ W1.h W1 S1 ρ) (e1 : Ext W W1) (r1 : RepL G.K W1 zs ds)
    (q : F.run ds S1 (fun d S' => P d ∧ wish G m W S' d Q) R) (hQ : ∀ d z W' , P d → Rz G.K (mdOf F.own) W1 W' z d → Q z W'.h → QV z W'.h) : spF G F zs W1.h QV (EXr G W0 R) := by
  refine ⟨W1, S1, ds, rfl, a1.w, r1, F.mono _ _ _ _ _ _ (fun d S' q => ?_) (fun x S' q cls dd W' w' e' rx => ?_) q⟩
  · have q' := wish.on q.2 e1
    intro z W' w' e' r'
    refine hQ d z W' q.1 r' ?_
    cases ho : F.own with
    | true =>
      rw [ho] at r'
      exact q'.share z W' w' e' r'
    | false =>
      rw [ho] at r'
      exact q'.sh (fun z => Bool.false_ne_true (ho.symm.trans (hm z))) z W' w' e' r'
  · exact ⟨x, S', W', rfl, w', a1.e0.trans e', rx, q⟩
theorem few_args {es : List Expr} {env : Env} (hn : es.all noStar = true) (hl : es.length < 20) : methodCallForm (es.length + ([] : List Keyword).length) (backTo pos (starEach es env)) (backToKw pos (keywordEach [] env)) = true := by
  have key : ∀ es : List Expr, es.all noStar = true → (backTo pos (starEach es env)).all (fun x => !x.1) = true := fun es => by
    induction es with
    | nil => intro _; rfl
    | cons e es ih =>
      intro h
      rw [List.all_cons, Bool.and_eq_true] at h
      rw [star_plain h.1]
      have := ih h.2
      unfold backTo at this ⊢
      rw [List.map_cons, List.all_cons, this]
      rfl
  unfold methodCallForm
  rw [key es hn]
  have e : backToKw pos (keywordEach [] env) = [] := rfl
  rw [e]
  simp
  omega
/-- o.m(..) -/
theorem r_meth {k : Nat} {cn mn : Str} {F : Fn} {m : Md} {es : List Expr} {apos : Pos} (hf : MthFact (sur X) k cn mn F) (hr : Room k X.A) (hp : Passes (L2.CX X.prog X.w) X (EXr (sur X) W0 R)) (hm : m = .ow → F.own = true) (ho : plainBase a = true) (hline : (apos.endLine == pos.line) = true)
    (hns : es.all noStar = true) (hl : es.length < 20) (ha : PE X a (tE (sur X) W0 R .bo A)) (hb : PA X es (tL (sur X) W0 R B)) (hz : es = [] → B = .nil) : PE X (.Call (.Attribute a mn apos) es [] pos) (tE (sur X) W0 R m (.ob (.meth cn mn) F A B)) := by
  obtain ⟨C, f, fd, ps, M⟩ := hf
  constructor
  intro pins s σ H Q I ⟨W, S, ρ, at_, h⟩
  rw [arm_eval_Call, base_plain ho]
  refine wpAny_bind (thn (ha.run pins s σ H (fun x H1 => ∃ d W1 S1, W1.h = H1 ∧ At (sur X) W0 σ W1.h W1 S1 ρ ∧ Ext W W1 ∧ RepB X.K W1 x d ∧ obOk (.meth cn mn) d S1 ∧ wp B R ρ S1 fun r S2 => match r with
    | .tup ds => Obk.arg (.meth cn mn) d ds S2 ∧ F.run (d :: ds) S2 (fun d' S3 => Obk.fit (.meth cn mn) d' ∧ wish (sur X) m W S3 d' Q) (Obk.exc (.meth cn mn) R)
    | _ => False) I
    (one (m := .bo) at_ h fun x d W1 S1 a1 e1 r1 q1 => ⟨d, W1, S1, rfl, a1, e1, r1, q1.1, q1.2⟩)) fun v s1 ⟨x, H1, I1, r1, d, W1, S1, eh, a1, e1, rd, hok, q1⟩ => ?_)
  subst eh
  have hd : ∃ k fs, d = .hdl k ∧ S1[k]? = some (.obj cn fs) ∧ fs.lookup mn = none := by
    unfold obOk at hok
    split at hok
    · split at hok
      · rename_i e
        obtain ⟨rfl, h2⟩ := hok
        exact ⟨_, _, rfl, e, h2⟩
      · exact hok.elim
    · exact hok.elim
  obtain ⟨k, fs, rfl, hk, hn⟩ := hd
  obtain ⟨p, C', dx, vs, rfl, p1, p2, p3, p4, p5⟩ := a1.w.ob hk (RepB.hdl rd)
  have e : C' = C := by
    have p2 : (sur X).mg cn = some (.ref C') := p2
    rw [M.g] at p2
    exact (Value.ref.inj (Option.some.inj p2)).symm
  subst e
  obtain rfl : v = Value.ref p := r1
  refine wpAny_bind (wpAny_standAt ?_)
  have hform := few_args (pos := pos) (env := X.env) hns hl
  have hpos : methodCallPos true a X.env apos pos = pure pos := by unfold methodCallPos; simp [hline]
  unfold methodCall
  rw [hform]
  refine wpAny_bind (wpAny_holding (getmeth_ok I1 p3 M.cl M.mt ((p4.look (x := mn)).2 hn) ?_))
  refine wpAny_bind (wpAny_of_eq hpos ?_)
  have fin : ∀ (us : List Value) (zs : List V) (ds : List Dt) (s2 : Shared) (W2 : Wl) (S2 : Store), Inv X pins σ W2.h s2 → At (sur X) W0 σ W2.h W2 S2 ρ → Ext W1 W2 → Vals zs us → RepL X.K W2 zs ds → F.run (.hdl k :: ds) S2 (fun d' S3 => Obk.fit (.meth cn mn) d' ∧ wish (sur X) m W S3 d' Q) R →
      wpAny (model X.prog X.w) X.A (call (.ref f) (.ref p :: us)) (EP X pins σ Q) X.xe s2 := fun us zs ds s2 W2 S2 I2 a2 e2 rv rl q2 => by
    have rl' : RepL X.K W2 (.ref p :: zs) (.hdl k :: ds) := .cons (Rep.mono e2 (RepB.hdl rd)) rl
    exact run_fn (us := .ref p :: us) (vs := .ref p :: zs) (dvs := []) (ds := []) (Q := Q) (E := EXr (sur X) W0 R) M.ok hr M.bn .nil hp I2 (.cons rfl rv) (by
      rw [List.append_nil]
      exact sp_call hm a2 (e1.trans e2) rl' q2 fun d z W' _ _ hq => hq)
  cases es with
  | nil =>
    have eB := hz rfl
    subst eB
    exact PySem.W.callWith_K0 (first := [.ref p]) I1.kIn M.mt.kp (fin [] [] [] s1 W1 S1 I1 a1 (Ext.refl W1) .nil .nil q1.2)
  | cons e es =>
    rw [List.all_cons, Bool.and_eq_true] at hns
    refine PySem.W.callWith_K (first := [.ref p]) (h₀ := X.base) I1.ok.mod.kin M.mt.kp (thn (hb.run pos pins s1 σ W1.h (fun us H2 => ∃ ds W2 S2, W2.h = H2 ∧ At (sur X) W0 σ W2.h W2 S2 ρ ∧ Ext W1 W2 ∧ RepL X.K W2 us ds ∧ F.run (.hdl k :: ds) S2 (fun d' S3 => Obk.fit (.meth cn mn) d' ∧ wish (sur X) m W S3 d' Q) R) I1
      (list_read a1 q1 fun zs ds W2 S2 a2 e2 r2 q2 => ⟨ds, W2, S2, rfl, a2, e2, r2, q2.2⟩)) fun us s2 ⟨zs, H2, I2, r2, ds, W2, S2, eh, a2, e2, rl, q2⟩ => ⟨I2.kIn, ?_⟩) (star_plain hns.1) (star_none hns.2)
    subst eh
    exact fin us zs ds s2 W2 S2 I2 a2 e2 r2 rl q2
theorem ob_cls {o : Obk} {v : Dt} {S : Store} (h : obOk o v S) : ∃ k fs, v = .hdl k ∧ S[k]? = some (.obj o.cls fs) := by
  unfold obOk at h
  split at h
  · split at h
    · rename_i e
      obtain ⟨rfl, _⟩ := h
      exact ⟨_, _, rfl, e⟩
    · exact h.elim
  · exact h.elim
theorem is_cls {c : Str} {v : Dt} {S : Store} (h : isOb c v S) : ∃ k fs, v = .hdl k ∧ S[k]? = some (.obj c fs) := by
  unfold isOb at h
  split at h
  · split at h
    · rename_i e
      subst h
      exact ⟨_, _, rfl, e⟩
    · exact h.elim
  · exact h.elim
theorem cls_eq {mg : Str → Option Value} {c : Str} {C C' : Addr} (h : mg c = some (.ref C)) (h' : mg c = some (.ref C')) : C' = C := by
  rw [h] at h'
  exact (Value.ref.inj (Option.some.inj h')).symm
/-- o.x, a property -/
theorem r_prop {k : Nat} {cn x : Str} {F : Fn} {m : Md} (hf : PropFact (sur X) k cn x F) (hr : Room (k + 1) X.A) (hm : m = .ow → F.own = true) (ho : plainBase a = true) (ha : PE X a (tE (sur X) W0 R .bo A)) : PE X (.Attribute a x pos) (tE (sur X) W0 R m (.ob (.prop cn x) F A .nil)) := by
  obtain ⟨C, p, f, fd, ps, M⟩ := hf
  refine PE.imp (pe_prop (dvs := []) (ds := []) (E := EXr (sur X) W0 (fun _ _ => False)) ha M.cl M.at_ M.ok hr M.bn .nil (fun pins σ H s e s' I h => ?_) (base_plain ho)) fun σ H Q ⟨W, S, ρ, at_, h⟩ => ?_
  · obtain ⟨_, _, _, _, _, _, _, _, _, _, _, _, z⟩ := h
    exact (EXr.no z).elim
  · refine one (m := .bo) at_ h fun z d W1 S1 a1 e1 r1 q => ?_
    obtain ⟨h1, _, h2⟩ := q
    obtain ⟨k, fs, rfl, hk⟩ := ob_cls h1
    obtain ⟨q, C', dx, vs, rfl, p1, p2, p3, p4, p5⟩ := a1.w.ob hk (RepB.hdl r1)
    obtain rfl := cls_eq M.g p2
    refine ⟨q, dx, vs, rfl, p3, ?_⟩
    refine ⟨W1, S1, [.hdl k], rfl, a1.w, .cons (RepB.hdl r1) .nil, F.mono _ _ _ _ _ _ (fun d S' q => ?_) (fun x S' q => q.elim) h2⟩
    have q' := wish.on q.2 e1
    cases ho : F.own with
    | true => exact q'.share
    | false => exact q'.sh fun z => Bool.false_ne_true (ho.symm.trans (hm z))
/-- a special method's def runs, one level down -/
theorem run_in1 {k : Nat} {f : Addr} {fd : FuncData} {ps : List Str} {sp : Sp} {E : XK} {pins : List (Addr × Obj)} {σ : L2.St} {H : Hp} {s : Shared} {Q : VK} {us : List Value} {vs : List V} (F : FnOk X.prog X.w X.K X.mg X.base (L2.CX X.prog X.w) k f fd ps sp) (hr : Room (k + 1) X.A) (hb : Binds X.K fd ps [])
    (hx : Passes (L2.CX X.prog X.w) X E) (I : Inv X pins σ H s) (r : Vals vs us) (h : sp vs H Q E) : wpAny (model X.prog X.w) X.A.in1 (call (.ref f) us) (EP X pins σ Q) X.xe s := by
  have hl : (us ++ []).length = ps.length := by rw [List.append_nil, ← r.length]; exact F.len _ _ _ _ h
  have hbb := hb s us I.kIn hl
  rw [List.append_nil] at hbb
  refine wpAny_call (codeAny_mono (F.run X.A.in1 X.stack s H ⟨us, []⟩ us vs Q E hr.in1 I.env0.in1 hbb r h) fun r s' hq => ?_)
  cases r with
  | error e => exact hx pins σ H s e s' I hq
  | ok fl =>
    cases fl with
    | ret u => exact I.after hq
    | next => exact False.elim hq
    | brk => exact False.elim hq
    | cont => exact False.elim hq
/-- the instance as the library wants it -/
theorem ins_at {pins : List (Addr × Obj)} {σ : L2.St} {H : Hp} {s : Shared} {a C dx : Addr} {vs : List (Str × V)} (I : Inv X pins σ H s) (h : H a = some (.ins C dx vs)) : ∃ ox od, PySem.W.InstAt s.heap a ox C od := by
  obtain ⟨mA, J, _⟩ := ins_get I.hok h
  obtain ⟨od, J, _⟩ := J.look
  exact ⟨_, _, J⟩
def rLenO (C : Addr) (sp : Sp) (E : XK) : List V → Hp → VK → Prop := fun xs H Q => ∃ p dx fs, xs = [.ref p] ∧ H p = some (.ins C dx fs) ∧ sp [.ref p] H (fun v H' => ∃ n : Nat, v = .int n ∧ n < 4611686018427387904 ∧ Q (.int n) H') E
theorem call_lenO {k : Nat} {cn : Str} {F : Fn} {C f : Addr} {fd : FuncData} {ps : List Str} {E : XK} (M : MthAt (sur X) k cn "__len__" F C f fd ps) (hr : Room (k + 1) X.A) (hx : Passes (L2.CX X.prog X.w) X E) : CallR X (.builtin "len") (rLenO C (spF (sur X) F) E) := by
  intro pins s σ H xs us Q I r h
  obtain ⟨p, dx, fs, rfl, hp, h⟩ := h
  obtain ⟨u, rfl, ru⟩ := vals1 r
  obtain rfl : u = Value.ref p := ru
  obtain ⟨ox, od, J⟩ := ins_at I hp
  obtain ⟨mF, hF⟩ := I.fr
  refine PySem.W.len_K hF I.ok.mod.kin J M.mt.at_ M.mt.fn (wpAny_mono (run_in1 (vs := [.ref p]) M.ok hr M.bn hx I (.cons rfl .nil) h) (fun w s' hq => ?_) fun _ _ e => e)
  obtain ⟨v, H', I', rv, n, rfl, hn, hq⟩ := hq
  obtain ⟨t, rfl⟩ := (show ∃ t, w = Value.int n t from rv)
  refine ⟨⟨by omega, ?_⟩, .int n, H', I'.tok _, ⟨_, rfl⟩, hq⟩
  have : (2 : Int) ^ 63 = 9223372036854775808 := by decide
  omega
theorem r_lenO {k : Nat} {cn : Str} {F : Fn} {m : Md} {p : Pos} (hf : MthFact (sur X) k cn "__len__" F) (hr : Room (k + 1) X.A) (hp : Passes (L2.CX X.prog X.w) X (EXr (sur X) W0 R)) (hg : Gl X "len") (hx : X.mg "len" = none) (hn : noStar a = true) (ha : PE X a (tE (sur X) W0 R .bo A)) :
    PE X (.Call (.Name "len" p) [a] [] pos) (tE (sur X) W0 R m (.ob (.len cn) F A .nil)) := by
  obtain ⟨C, f, fd, ps, M⟩ := hf
  refine PE.imp (pe_callB (call_lenO M hr hp) hg hx PySem.boot_len (pa_cons ha pa_nil (star_plain hn)) (by decide +kernel) (by decide +kernel) (star_plain hn) rfl) fun σ H Q ⟨W, S, ρ, at_, h⟩ => ?_
  refine one (m := .bo) at_ h fun z d W1 S1 a1 e1 r1 q => ?_
  obtain ⟨h1, _, h2⟩ := q
  obtain ⟨k, fs, rfl, hk⟩ := ob_cls h1
  obtain ⟨q, C', dx, vs, rfl, p1, p2, p3, p4, p5⟩ := a1.w.ob hk (RepB.hdl r1)
  obtain rfl := cls_eq M.g p2
  refine ⟨q, dx, vs, rfl, p3, ?_⟩
  refine ⟨W1, S1, [.hdl k], rfl, a1.w, .cons (RepB.hdl r1) .nil, F.mono _ _ _ _ _ _ (fun d S' q => ?_) (fun x S' q cls dd W' w' e' rx => ⟨x, S', W', rfl, w', a1.e0.trans e', rx, q⟩) h2⟩
  obtain ⟨⟨n, rfl, hn⟩, q⟩ := q
  intro z W' w' e' r'
  have q' := wish.on (wish.on q e1) e'
  have rz : Rep X.K W' z (.int n) := by
    cases ho : F.own with
    | true => rw [ho] at r'; exact (show Rz X.K .ow W1 W' z _ from r').2 fun ds z => nomatch z
    | false => rw [ho] at r'; exact r'
  cases rz
  exact ⟨n, rfl, hn, q'.flat w' (.int n) fun ds z => nomatch z⟩
/-- a == b of two objects of one class of the text -/
def rEqO (C : Addr) (sp : Sp) (E : XK) : R2 := fun x y H Q => ∃ p q dx dy fs gs, x = .ref p ∧ y = .ref q ∧ H p = some (.ins C dx fs) ∧ H q = some (.ins C dy gs) ∧ sp [x, y] H (fun v H' => ∃ b, v = .bl b ∧ Q (.bl b) H') E
theorem op_eqO {k : Nat} {cn : Str} {F : Fn} {C f : Addr} {fd : FuncData} {ps : List Str} {E : XK} (M : MthAt (sur X) k cn "__eq__" F C f fd ps) (hr : Room k X.A) (hx : Passes (L2.CX X.prog X.w) X E) : OpR X (compareOp .Eq) (rEqO C (spF (sur X) F) E) := by
  intro pins s σ H x y u v Q I rx ry h
  obtain ⟨p, q, dx, dy, fs, gs, rfl, rfl, h1, h2, h⟩ := h
  obtain rfl : u = Value.ref p := rx
  obtain rfl : v = Value.ref q := ry
  obtain ⟨ox, od, J⟩ := ins_at I h1
  obtain ⟨oy, oe, J'⟩ := ins_at I h2
  obtain ⟨mF, hF⟩ := I.fr
  show wpAny (model X.prog X.w) X.A (richCompare .Eq (.ref p) (.ref q)) (EP X pins σ Q) X.xe s
  refine PySem.W.cmp_K (op := .Eq) (tb := .ref C) hr.units0 hF I.ok.mod.kin J J'.type (by simp [PySem.W.notFirst]) M.mt.at_ M.mt.fn ?_
  refine wpAny_mono (run_fn (us := [.ref p, .ref q]) (vs := [.ref p, .ref q]) (dvs := []) (ds := []) M.ok hr M.bn .nil hx I (.cons rfl (.cons rfl .nil)) (by rw [List.append_nil]; exact h)) (fun w s' hq => ?_) fun _ _ e => e
  obtain ⟨v, H', I', rv, b, rfl, hq⟩ := hq
  obtain rfl : w = Value.bool b := rv
  exact ⟨.bl b, H', I', rfl, hq⟩
theorem eqO_read {k : Nat} {cn : Str} {F : Fn} {C f : Addr} {fd : FuncData} {ps : List Str} (M : MthAt (sur X) k cn "__eq__" F C f fd ps) {σ : L2.St} {H : Hp} {W : Wl} {S : Store} {ρ : Ev} {Q : VK} {J : Dt → Store → Prop} (at_ : At (sur X) W0 σ H W S ρ) (h : wp (.ob (.eq cn) F A (.cons B .nil)) R ρ S J)
    (f : ∀ b W2 S2, Wd (sur X) W2 S2 → Ext W W2 → J (.bl b) S2 → Q (.bl b) W2.h) : tE (sur X) W0 R .bo A σ H fun x H1 => tE (sur X) W0 R .bo B σ H1 fun y H2 => rEqO C (spF (sur X) F) (EXr (sur X) W0 R) x y H2 Q := by
  refine one (m := .bo) at_ h fun x d1 W1 S1 a1 e1 r1 q => ?_
  obtain ⟨h1, h2⟩ := q
  obtain ⟨k, fs, rfl, hk⟩ := ob_cls h1
  refine one (m := .bo) a1 h2 fun y d2 W2 S2 a2 e2 r2 q => ?_
  obtain ⟨⟨d, hd, hi, hv⟩, q⟩ := q
  cases hd
  obtain ⟨k2, gs, rfl, hk2⟩ := is_cls hi
  obtain ⟨k1, fs1, ek, hk1⟩ := is_cls hv
  cases ek
  have r1' := Rep.mono e2 (RepB.hdl r1)
  obtain ⟨p, C', dx, vs, rfl, p1, p2, p3, p4, p5⟩ := a2.w.ob hk1 r1'
  obtain rfl := cls_eq M.g p2
  obtain ⟨p', C2, dy, us, rfl, t1, t2, t3, t4, t5⟩ := a2.w.ob hk2 (RepB.hdl r2)
  obtain rfl := cls_eq M.g t2
  refine ⟨p, p', dx, dy, vs, us, rfl, rfl, p3, t3, ?_⟩
  refine ⟨W2, S2, [.hdl k, .hdl k2], rfl, a2.w, .cons r1' (.cons (RepB.hdl r2) .nil), F.mono _ _ _ _ _ _ (fun d S' q => ?_) (fun x S' q cls dd W' w' e' rx => ⟨x, S', W', rfl, w', a2.e0.trans e', rx, q⟩) q⟩
  obtain ⟨⟨b, rfl⟩, q⟩ := q
  intro z W' w' e' r'
  have rz : Rep X.K W' z (.bl b) := by
    cases ho : F.own with
    | true => rw [ho] at r'; exact (show Rz X.K .ow W2 W' z _ from r').2 fun ds z => nomatch z
    | false => rw [ho] at r'; exact r'
  cases rz
  exact ⟨b, rfl, f b W' S' w' ((e1.trans e2).trans e') q⟩
theorem r_eqO {k : Nat} {cn : Str} {F : Fn} {m : Md} (hf : MthFact (sur X) k cn "__eq__" F) (hr : Room k X.A) (hp : Passes (L2.CX X.prog X.w) X (EXr (sur X) W0 R)) (hs : notSetB b = true) (ha : PE X a (tE (sur X) W0 R .bo A)) (hb : PE X b (tE (sur X) W0 R .bo B)) :
    PE X (.Compare a [.Eq] [b] pos) (tE (sur X) W0 R m (.ob (.eq cn) F A (.cons B .nil))) := by
  obtain ⟨C, f, fd, ps, M⟩ := hf
  exact PE.imp (pe_cmpR (op_eqO M hr hp) ha hb (notSet_marks hs)) fun σ H Q ⟨W, S, ρ, at_, h⟩ => eqO_read M at_ h fun b W2 S2 w2 e2 q => (wish.on q e2).flat w2 (.bl b) fun ds z => nomatch z
theorem t_eqO {k : Nat} {cn : Str} {F : Fn} (hf : MthFact (sur X) k cn "__eq__" F) (hr : Room k X.A) (hp : Passes (L2.CX X.prog X.w) X (EXr (sur X) W0 R)) (hs : notSetB b = true) (ha : PE X a (tE (sur X) W0 R .bo A)) (hb : PE X b (tE (sur X) W0 R .bo B)) :
    PT X (.Compare a [.Eq] [b] pos) (tT (sur X) W0 R (.ob (.eq cn) F A (.cons B .nil))) := by
  obtain ⟨C, f, fd, ps, M⟩ := hf
  exact PT.imp (pt_cmpR (op_eqO M hr hp) ha hb (notSet_marks hs)) fun σ H Q ⟨W, S, ρ, at_, h⟩ => eqO_read (Q := fun z H' => ∃ k, z = .bl k ∧ Q k H') M at_ h fun b W2 S2 w2 e2 q => ⟨b, rfl, q W2 w2 e2⟩
/-- C(..) -/
theorem r_mk {k : Nat} {cn : Str} {F : Fn} {m : Md} {es : List Expr} {p : Pos} (hf : MkFact (sur X) k cn F) (hr : Room (k + 1) X.A) (hg : Gl X cn) (hp : Passes (L2.CX X.prog X.w) X (EXr (sur X) W0 R)) (hdb : (cn == ("__debug__" : Str)) = false)
    (hn : noStar a = true) (hns : es.all noStar = true) (ha : PA X (a :: es) (tL (sur X) W0 R A)) : PE X (.Call (.Name cn p) (a :: es) [] pos) (tE (sur X) W0 R m (.mk cn F A)) := by
  obtain ⟨C, f, fd, ps, M⟩ := hf
  refine PE.imp (pe_make (dvs := []) (ds := []) (E := EXr (sur X) W0 R) M.mkc M.ok hr hg M.g M.bn .nil hp ha hdb (star_plain hn) (star_none hns)) fun σ H Q ⟨W, S, ρ, at_, h⟩ => ?_
  refine list_read at_ h fun zs ds W1 S1 a1 e1 r1 q x dx hx hdx ne => ?_
  rw [List.append_nil]
  have w2 := a1.w.mkO M.g hx hdx ne
  have e2 := a1.w.extO (C := C) hx hdx
  have hat : (W1.mkO x dx C).ad[S1.length]? = some x := by
    show (W1.ad ++ [x])[S1.length]? = some x
    rw [List.getElem?_append_right (by rw [a1.w.len]; exact Nat.le_refl _), a1.w.len, Nat.sub_self]
    rfl
  refine ⟨W1.mkO x dx C, S1 ++ [.obj cn []], .hdl S1.length :: ds, rfl, w2, .cons (.hdl hat) (r1.mono e2), F.mono _ _ _ _ _ _ (fun d S' q => ?_) (fun y S' q cls dd W' w' e' rx => ⟨y, S', W', rfl, w', (a1.e0.trans e2).trans e', rx, q⟩) q⟩
  obtain ⟨rfl, q⟩ := q
  intro z W' w' e' r'
  have rz : Rep X.K W' z .non := by
    cases ho : F.own with
    | true => rw [ho] at r'; exact (show Rz X.K .ow (W1.mkO x dx C) W' z _ from r').2 fun ds z => nomatch z
    | false => rw [ho] at r'; exact r'
  cases rz
  refine ⟨rfl, wish.flat w' (wish.on (wish.on q e1) (e2.trans e')) (.hdl ?_) fun ds z => nomatch z⟩
  obtain ⟨t, ht⟩ := e'.ad
  rw [← ht, List.getElem?_append_left (List.getElem?_eq_some_iff.mp hat).1]
  exact hat
/-- isinstance against a class of the text -/
theorem r_isc {cn : Str} {m : Md} {p q : Pos} (hf : IscFact (sur X) cn) (hg : Gl X "isinstance") (hx : X.mg "isinstance" = none) (hg2 : Gl X cn) (hdb : (cn == ("__debug__" : Str)) = false) (hn : noStar a = true) (ha : PE X a (tE (sur X) W0 R .bo A)) :
    PE X (.Call (.Name "isinstance" p) [a, .Name cn q] [] pos) (tE (sur X) W0 R m (.isc cn A)) := by
  obtain ⟨C, g1, g2, g3, g4, g5, g6, g7, g8, g9⟩ := hf.ex
  have hT : PE X (.Name cn q) (tC (.ref C)) := pe_glob hg2 g1 rfl hdb
  refine PE.imp (pe_callB call_isi hg hx boot_isinstance (pa_cons ha (pa_cons hT pa_nil (star_plain rfl)) (star_plain hn)) (by decide) (by decide) (star_plain hn) rfl) fun σ H Q ⟨W, S, ρ, at_, h⟩ => ?_
  refine one (m := .bo) at_ h fun x d W1 S1 a1 e1 r1 q1 => ?_
  have flat : ∀ t, tyD d = some t → wish (sur X) m W S1 (.bl false) Q → rIsi X.K [x, .ref C] W1.h Q := fun t ht q => by
    exact ⟨x, .ref C, .type t, .ref C, false, rfl, .own C, ty_rep a1.w.sub r1 ht, g9 t (tyD_mem ht), (wish.on q e1).flat a1.w (.bl _) fun ds z => nomatch z⟩
  cases d with
  | hdl k =>
    dsimp only at q1
    split at q1
    · rename_i c' fs hk
      obtain ⟨rfl, q1⟩ := q1
      obtain ⟨a', C', dx, vs, rfl, p1, p2, p3, p4, p5⟩ := a1.w.ob hk (RepB.hdl r1)
      obtain rfl := cls_eq (mg := (sur X).mg) g1 p2
      exact ⟨.ref a', .ref C', .ref C', .ref C', true, rfl, .own C', .base (.ins p3 g2 g3 g4 g5 g6), g7, (wish.on q1 e1).flat a1.w (.bl _) fun ds z => nomatch z⟩
    · exact q1.elim
  | dct _ => exact q1.elim
  | non => exact flat _ rfl q1
  | bl b => exact flat _ rfl q1
  | int i => exact flat _ rfl q1
  | str x => exact flat _ rfl q1
  | tup ds => exact flat _ rfl q1
  | lst ds => exact flat _ rfl q1
end
end Vr

/-! Dicts from texts to texts. -/
namespace Vr
open PySem PySem.Spec PyProof.Rows L2

theorem dk_any (kvs : List (Str × Str)) (s : Str) : ((dKV kvs).any fun kv => decide (kv.1 = (.inr s : Key))) = kvs.any fun kv => decide (kv.1 = s) := by
  unfold dKV
  rw [List.any_map]
  congr 1
  funext p
  by_cases q : p.1 = s
  · subst q; simp
  · have : ¬ ((.inr p.1 : Key) = .inr s) := fun z => q (Sum.inr.inj z)
    show decide ((.inr p.1 : Key) = .inr s) = decide (p.1 = s)
    rw [decide_eq_false q, decide_eq_false this]
theorem dk_val (s : Str) : ∀ kvs : List (Str × Str), valV (dKV kvs) (.inr s : Key) = (valS kvs s).map V.str
  | [] => rfl
  | p :: r => by
    have ih := dk_val s r
    by_cases q : p.1 = s
    · have e : (.inr p.1 : Key) = .inr s := by rw [q]
      rw [show dKV (p :: r) = ((.inr p.1 : Key), V.str p.2) :: dKV r from rfl, valV_pos e]
      unfold valS
      rw [List.find?_cons_of_pos (by simpa using q)]
      rfl
    · have e : ¬ (.inr p.1 : Key) = .inr s := fun z => q (Sum.inr.inj z)
      rw [show dKV (p :: r) = ((.inr p.1 : Key), V.str p.2) :: dKV r from rfl, valV_neg e, ih]
      unfold valS
      rw [List.find?_cons_of_neg (by simpa using q)]
theorem dk_put (kvs : List (Str × Str)) (s t : Str) : putK (dKV kvs) (.inr s : Key) (.str t) = dKV (putS kvs s t) := by
  unfold putK putS
  rw [dk_any]
  split
  · unfold dKV
    rw [List.map_map, List.map_map]
    congr 1
    funext p
    by_cases q : p.1 = s
    · show (if (.inr p.1 : Key) = .inr s then ((.inr p.1 : Key), V.str t) else (.inr p.1, V.str p.2)) = ((.inr (if p.1 = s then (p.1, t) else p).1 : Key), V.str (if p.1 = s then (p.1, t) else p).2)
      rw [if_pos q, if_pos (by rw [q])]
    · have e : ¬ (.inr p.1 : Key) = .inr s := fun z => q (Sum.inr.inj z)
      show (if (.inr p.1 : Key) = .inr s then ((.inr p.1 : Key), V.str t) else (.inr p.1, V.str p.2)) = ((.inr (if p.1 = s then (p.1, t) else p).1 : Key), V.str (if p.1 = s then (p.1, t) else p).2)
      rw [if_neg q, if_neg e]
  · unfold dKV
    rw [List.map_append]
    rfl
theorem dctAt_eq {S : Store} {v : Dt} {k : Nat} {kvs : List (Str × Str)} (h : dctAt S v = some (k, kvs)) : v = .hdl k ∧ S[k]? = some (.dct kvs) := by
  unfold dctAt at h
  split at h
  · split at h
    · rename_i e
      cases h
      exact ⟨rfl, e⟩
    · cases h
  · cases h
theorem Wd.dt {G : Sur} {W : Wl} {S : Store} (w : Wd G W S) {k : Nat} {kvs : List (Str × Str)} {v : V} (hk : S[k]? = some (.dct kvs)) (r : Rep G.K W v (.hdl k)) :
    ∃ a, v = .ref a ∧ W.ad[k]? = some a ∧ W.h a = some (.dK (dKV kvs)) ∧ (∀ p ∈ kvs, p.1.length ≤ sizeLine ∧ p.2.length ≤ sizeLine) ∧ W.f a = none := by
  cases r with
  | hdl ha =>
    obtain ⟨a', h1, h2, h3, h4⟩ := w.res k _ hk
    rw [ha] at h1
    cases h1
    exact ⟨_, rfl, ha, h3, h4, h2⟩
theorem Wd.dct {G : Sur} {W : Wl} {S : Store} (w : Wd G W S) {x : Addr} (h1 : W.h x = none) : Wd G ⟨W.ad ++ [x], W.f, upd W.h x (.dK [])⟩ (S ++ [.dct []]) ∧ Ext W ⟨W.ad ++ [x], W.f, upd W.h x (.dK [])⟩ := by
  have old : ∀ b o, W.h b = some o → upd W.h x (.dK []) b = some o := fun b o e => by
    rw [upd_ne (ne_of_none e h1)]
    exact e
  have e : Ext W ⟨W.ad ++ [x], W.f, upd W.h x (.dK [])⟩ := by
    refine ⟨List.prefix_append .., Same.refl _, fun a o e _ => old a o e, fun a _ e _ => e, fun a ha => ?_, fun a ha => ?_⟩
    · rcases List.mem_append.mp ha with ha | ha
      · exact .inl ha
      · rw [List.mem_singleton] at ha
        subst ha
        exact .inr h1
    · obtain ⟨_, o, e⟩ := w.ad_of ha
      exact .inl (by
        show upd _ _ _ a ≠ none
        rw [old a o e]
        exact fun z => nomatch z)
  refine ⟨⟨fun b u e => old b u (w.sub b u e), by rw [List.length_append, List.length_append, w.len]; rfl, ?_, fun k r e2 => ?_⟩, e⟩
  · rw [List.nodup_append]
    refine ⟨w.nd, by simp, fun a ha b hb => ?_⟩
    rw [List.mem_singleton] at hb
    subst hb
    rintro rfl
    exact w.not_ad h1 ha
  · by_cases hk : k < S.length
    · rw [List.getElem?_append_left hk] at e2
      obtain ⟨a, p1, p2, p3⟩ := w.res k r e2
      exact ⟨a, by rw [List.getElem?_append_left (by rw [w.len]; exact hk)]; exact p1, p2, p3.mono e a fun o z => old a o z⟩
    · rw [List.getElem?_append_right (by omega)] at e2
      have hk2 : k - S.length = 0 := by
        have := (List.getElem?_eq_some_iff.mp e2).1
        simp at this
        omega
      rw [hk2] at e2
      cases e2
      refine ⟨x, ?_, w.none_f h1, upd_same, fun p h => nomatch h⟩
      rw [List.getElem?_append_right (by rw [w.len]; omega), w.len, hk2]
      rfl
section
variable {X : Cx} {W0 : Wl} {R : XR} {a b c : Expr} {A B C : Ex} {pos : Pos}
theorem r_dnew {m : Md} : PE X (.Dict [] [] pos) (tE (sur X) W0 R m .dnew) :=
  PE.imp pe_dnewK fun σ H Q ⟨W, S, ρ, at_, h⟩ p hp => by
    rw [← at_.h] at hp ⊢
    obtain ⟨w2, e2⟩ := at_.w.dct hp
    have h : wish (sur X) m W (S ++ [.dct []]) (.hdl S.length) Q := h
    refine wish.flat w2 (wish.on h e2) (.hdl ?_) fun ds z => nomatch z
    show (W.ad ++ [p])[S.length]? = some p
    rw [List.getElem?_append_right (by rw [at_.w.len]; exact Nat.le_refl _), at_.w.len, Nat.sub_self]
    rfl
theorem din_read {G : Sur} {σ : L2.St} {H : Hp} {W : Wl} {S : Store} {ρ : Ev} {Q : VK} {J : Dt → Store → Prop} (at_ : At G W0 σ H W S ρ) (h : wp (.din A B) R ρ S J) (f : ∀ b W2 S2, Wd G W2 S2 → Ext W W2 → J (.bl b) S2 → Q (.bl b) W2.h) : tDInN (tE G W0 R .bo A) (tE G W0 R .bo B) σ H Q := by
  refine one (m := .bo) at_ h fun x d1 W1 S1 a1 e1 r1 q1 => one (m := .bo) a1 q1 fun z d2 W2 S2 a2 e2 r2 q2 => ?_
  obtain ⟨⟨k, kvs⟩, h1, q2⟩ := opt_eq q2
  obtain ⟨b, h2, q2⟩ := opt_eq q2
  obtain ⟨rfl, hk⟩ := dctAt_eq h1
  obtain ⟨p, rfl, p1, p2, p3, p4⟩ := a2.w.dt hk (RepB.hdl r2)
  cases d1 with
  | str s =>
    cases h2
    obtain rfl : x = V.str s := by
      rcases r1 with r1 | ⟨_, z, _⟩
      · cases r1; rfl
      · cases z
    refine .inl ⟨p, _, rfl, DGet.k (k := .inr s) p2, ?_⟩
    rw [dk_val, Option.isSome_map]
    exact f _ W2 S2 a2.w (e1.trans e2) q2
  | non =>
    cases h2
    obtain rfl : x = V.non := by
      rcases r1 with r1 | ⟨_, z, _⟩
      · cases r1; rfl
      · cases z
    exact .inr ⟨p, _, rfl, rfl, .inl p2, f _ W2 S2 a2.w (e1.trans e2) q2⟩
  | _ => cases h2
theorem r_din (hu : X.A.units + 64 < cLine) (hs : notSetB b = true) (ha : PE X a (tE (sur X) W0 R .bo A)) (hb : PE X b (tE (sur X) W0 R .bo B)) {m : Md} : PE X (.Compare a [.In] [b] pos) (tE (sur X) W0 R m (.din A B)) :=
  PE.imp (pe_cmp (pc_dinN (by omega) ha hb) (notSet_marks hs)) fun σ H Q ⟨W, S, ρ, at_, h⟩ => din_read at_ h fun b W2 S2 w2 e2 q => (wish.on q e2).flat w2 (.bl b) fun ds z => nomatch z
theorem t_din (hu : X.A.units + 64 < cLine) (hs : notSetB b = true) (ha : PE X a (tE (sur X) W0 R .bo A)) (hb : PE X b (tE (sur X) W0 R .bo B)) : PT X (.Compare a [.In] [b] pos) (tT (sur X) W0 R (.din A B)) :=
  PT.imp (pt_cmp (pc_dinN (by omega) ha hb) (notSet_marks hs)) fun σ H Q ⟨W, S, ρ, at_, h⟩ => din_read (Q := fun z H' => ∃ k, z = .bl k ∧ Q k H') at_ h fun b W2 S2 w2 e2 q => ⟨b, rfl, q W2 w2 e2⟩
theorem valS_mem {kvs : List (Str × Str)} {s t : Str} (h : valS kvs s = some t) : ∃ p ∈ kvs, p.1 = s ∧ p.2 = t := by
  unfold valS at h
  obtain ⟨p, h1, h2⟩ := Option.map_eq_some_iff.mp h
  exact ⟨p, List.mem_of_find?_eq_some h1, by simpa using List.find?_some h1, h2⟩
theorem r_dget (hu : X.A.units + 64 < cLine) (hs : notSlice b = true) (ha : PE X a (tE (sur X) W0 R .bo A)) (hb : PE X b (tE (sur X) W0 R .bo B)) {m : Md} : PE X (.Subscript a b pos) (tE (sur X) W0 R m (.dget A B)) := by
  refine PE.imp (pe_dget (by omega) ha hb (fun ov iv => ?_)) fun σ H Q ⟨W, S, ρ, at_, h⟩ => ?_
  · cases b <;> first | rfl | cases hs
  · refine one (m := .bo) at_ h fun z d2 W1 S1 a1 e1 r1 q1 => one (m := .bo) a1 q1 fun x d1 W2 S2 a2 e2 r2 q2 => ?_
    obtain ⟨⟨k, kvs⟩, h1, q3⟩ := opt_eq q2
    obtain ⟨t, h2, q4⟩ := opt_eq q3
    obtain ⟨rfl, hk⟩ := dctAt_eq h1
    obtain ⟨p, rfl, p1, p2, p3, p4⟩ := a2.w.dt hk (Rep.mono e2 (RepB.hdl r1))
    cases d1 with
    | str s =>
      have h2 : valS kvs s = some t := h2
      obtain rfl : x = V.str s := by
        rcases r2 with r2 | ⟨_, z, _⟩
        · cases r2; rfl
        · cases z
      have g : DGet W2.h p (V.str s) (some (V.str t)) := by
        have := DGet.k (k := .inr s) p2
        rw [dk_val, h2] at this
        exact this
      obtain ⟨q, hq, _, eq⟩ := valS_mem h2
      refine ⟨p, V.str t, rfl, g, (wish.on q4 (e1.trans e2)).flat a2.w (.str t ?_) fun ds z => nomatch z⟩
      rw [← eq]
      exact (p3 q hq).2
    | _ => cases h2
theorem keys_rep {K : PySem.W.Frag} {W : Wl} : ∀ {kvs : List (Str × Str)}, (∀ p ∈ kvs, p.1.length ≤ sizeLine ∧ p.2.length ≤ sizeLine) → RepL K W ((dKV kvs).map fun kv => kV kv.1) (kvs.map fun p => .str p.1)
  | [], _ => .nil
  | p :: r, h => .cons (.str _ (h p List.mem_cons_self).1) (keys_rep fun q hq => h q (List.mem_cons_of_mem _ hq))
theorem r_dkeys {m : Md} {p : Pos} (hc : X.calm = true) (hg : Gl X "list") (hx : X.mg "list" = none) (hn : noStar a = true) (ha : PE X a (tE (sur X) W0 R .bo A)) : PE X (.Call (.Name "list" p) [a] [] pos) (tE (sur X) W0 R m (.dkeys A)) := by
  obtain ⟨h1, h2, h3⟩ := bltN_ok .lst
  refine PE.imp (pe_callTy (call_list_dK hc) hg hx h3 (pa_cons ha pa_nil (star_plain hn)) h1 h2 (star_plain hn) rfl) fun σ H Q ⟨W, S, ρ, at_, h⟩ => ?_
  refine one (m := .bo) at_ h fun z d2 W1 S1 a1 e1 r1 q1 => ?_
  obtain ⟨⟨k, kvs⟩, hh, q5⟩ := opt_eq q1
  obtain ⟨rfl, hk⟩ := dctAt_eq hh
  obtain ⟨p, rfl, p1, p2, p3, p4⟩ := a1.w.dt hk (RepB.hdl r1)
  exact ⟨p, _, rfl, p2, fun q hq => wish.new a1.w hq (wish.on q5 e1) (keys_rep p3)⟩
end
end Vr

/-! The checker of expressions, and that it is sound. -/
namespace Vr
open PySem PySem.Spec PyProof.Rows L2

/-- what a term is read as: a value in a mode, a test, a test's chain, a list, a slice's end, what a loop walks -/
inductive Kn where
  | e (m : Md) | t | w | l | o | i (m : Md) | b | p (i : Nat)
def visB (sc : Scope) (x : Str) : Bool := match sc.names.lookup x with
  | some .local => true
  | some .cell => true
  | some .free => true
  | _ => false
def locB (sc : Scope) (x : Str) : Bool := match sc.names.lookup x with
  | some .local => true
  | some .cell => true
  | _ => false
def glB (sc : Scope) (x : Str) : Bool := match sc.names.lookup x with
  | some .globalImplicit => true
  | _ => false
def nmB (x : Str) : Bool := !(x == ("__debug__" : Str)) && !(x == ("__classdict__" : Str))
def isTup : Expr → Bool
  | .Tuple .. => true
  | _ => false
def isPr : Ex → Bool
  | .enu _ => true
  | .zip _ _ => true
  | _ => false
def isTT : Ex → Bool
  | .con (.bool true) => true
  | _ => false
def isMany : Pt → Bool
  | .many _ => true
  | _ => false
def tyNs (es : List Expr) : List (Option Str) := es.map fun e => match e with | .Name x _ => some x | _ => none
def tysC (sc : Scope) (ts : List String) (es : List Expr) : Bool := (ts.all fun t => kinds.contains t && glB sc (PySem.Str.ofString t)) && decide (tyNs es = ts.map fun t => some (PySem.Str.ofString t)) && decide (ts.length ≤ 20)
abbrev Rec := Kn → Scope → Ex → List Expr → Bool
def lcC (N : List Str) (rec : Rec) (sc : Scope) (own : List (Str × Nat)) (pt : Pt) (S T E : Ex) (elt tg iter : Expr) (ifs : List Expr) (scope : Scope) : Bool :=
  blkC N sc scope own && ((ptIx pt).all fun j => (own.map (·.2)).contains j) && ptC N (locB scope) pt tg && (isMany pt || !isPr S) && notSetB iter && rec (.i .bo) sc S [tg, iter] &&
    (match ifs with
      | [] => isTT T
      | [c] => rec .t (relS scope sc) T [c]
      | _ => false) && rec (.e .sh) (relS scope sc) E [elt]
def tstC (rec : Rec) (sc : Scope) (T : Ex) (ifs : List Expr) : Bool := match ifs with
  | [] => isTT T
  | [c] => rec .t sc T [c]
  | _ => false
def lc2C (N : List Str) (rec : Rec) (sc : Scope) (own : List (Str × Nat)) (pt : Pt) (S T : Ex) (js : List Nat) (pt1 : Pt) (S1 T1 E : Ex) (elt tg iter : Expr) (ifs : List Expr) (tg1 iter1 : Expr) (ifs1 : List Expr) (scope : Scope) : Bool :=
  blkC N sc scope own && ((ptIx pt).all fun j => (own.map (·.2)).contains j) && ((ptIx pt1).all fun j => js.contains j) && (js.all fun j => (own.map (·.2)).contains j) && ptC N (locB scope) pt tg && ptC N (locB scope) pt1 tg1 && (isMany pt || !isPr S) && (isMany pt1 || !isPr S1) && notSetB iter && notSetB iter1 && rec (.i .bo) sc S [tg, iter] &&
    rec (.i .sh) (relS scope sc) S1 [tg1, iter1] && tstC rec (relS scope sc) T ifs && tstC rec (relS scope sc) T1 ifs1 && rec (.e .sh) (relS scope sc) E [elt]
def stepE (N : List Str) (rec : Rec) (m : Md) (sc : Scope) (E : Ex) (e : Expr) : Bool :=
  match e with
  | .BoolOp op es p => (match es with
    | [a] => rec (.e m) sc E [a]
    | a :: b :: rest => (match op, E with
      | .And, .and A B => decide (m ≠ .ow) && rec (.e m) sc A [a] && rec (.e m) sc B [.BoolOp .And (b :: rest) p]
      | .Or, .or A B => decide (m ≠ .ow) && rec (.e m) sc A [a] && rec (.e m) sc B [.BoolOp .Or (b :: rest) p]
      | _, _ => false)
    | [] => false)
  | .Name x _ => (match E with
    | .var i => decide (m ≠ .ow) && decide (N[i]? = some x) && visB sc x && nmB x
    | .bor i => decide (m = .bo) && decide (N[i]? = some x) && visB sc x && nmB x
    | .glo y d => decide (m ≠ .ow) && decide (x = y) && glB sc x && nmB x
    | _ => false)
  | .Constant c _ _ => (match E with
    | .con c' => decide (c = c') && litOk c
    | _ => false)
  | .Tuple es _ _ => (match E with
    | .tup A => rec .l sc A es
    | _ => false)
  | .List es _ => (match E with
    | .lst A => rec .l sc A es
    | _ => false)
  | .BinOp a op b _ => (match E with
    | .bin o A B => decide (op = bopOf o) && rec (.e .bo) sc A [a] && rec (.e .bo) sc B [b]
    | _ => false)
  | .UnaryOp op a _ => (match op, E with
    | .USub, .neg A => rec (.e .bo) sc A [a]
    | .Not, .not A => rec (.e .bo) sc A [a]
    | _, _ => false)
  | .Compare a ops bs _ => (match ops, bs, E with
    | [op], [b], .cmp o A B => decide (op = copOf o) && notSetB b && rec (.e .bo) sc A [a] && rec (.e .bo) sc B [b]
    | [op, op'], [b, c], .chn o o' A B C => decide (op = copOf o) && decide (op' = copOf o') && notSetB c && rec (.e .bo) sc A [a] && rec (.e .bo) sc B [b] && rec (.e .bo) sc C [c]
    | [op], [b], .ob (.eq _) _ A (.cons B .nil) => decide (op = .Eq) && notSetB b && rec (.e .bo) sc A [a] && rec (.e .bo) sc B [b]
    | [op], [b], .din A B => decide (op = .In) && notSetB b && rec (.e .bo) sc A [a] && rec (.e .bo) sc B [b]
    | _, _, _ => false)
  | .IfExp c a b _ => (match E with
    | .ite C A B => rec .t sc C [c] && rec (.e m) sc A [a] && rec (.e m) sc B [b]
    | _ => false)
  | .Subscript a ix _ => (match E with
    | .rev A => (match ix with
      | .Slice none none (some (.UnaryOp .USub (.Constant (.int z) _ _) _)) _ => decide (z = 1) && rec (.e .bo) sc A [a]
      | _ => false)
    | .hix i j => (match a, ix with
      | .Name x _, .Constant (.int z) _ _ => decide (z = (j : Int)) && decide (N[i]? = some x) && visB sc x && nmB x
      | _, _ => false)
    | .slc A L H => (match ix with
      | .Slice lo hi none _ => rec (.e .bo) sc A [a] && rec .o sc L lo.toList && rec .o sc H hi.toList
      | _ => false)
    | .idx A B => decide (m ≠ .ow) && notSlice ix && rec (.e .bo) sc A [a] && rec (.e .bo) sc B [ix]
    | .dget A B => notSlice ix && rec (.e .bo) sc A [a] && rec (.e .bo) sc B [ix]
    | _ => false)
  | .Call (.Name x _) args [] _ => (match E with
    | .call f F A => decide (x = f) && glB sc x && nmB x && (decide (m ≠ .ow) || F.own) && (match args with | [] => A.no | a :: args => noStar a && args.all noStar && rec .l sc A (a :: args))
    | .callb f F A => decide (x = f) && glB sc x && nmB x && (match args with | [] => false | a :: args => noStar a && args.all noStar && rec .b sc A (a :: args))
    | .srs A => (match args with
      | [.Call (.Name y _) [a] [] _] => decide (x = "sorted") && decide (y = "set") && glB sc x && glB sc y && noStar a && rec (.e .bo) sc A [a]
      | _ => false)
    | .blt b A => (match args with
      | [a] => decide (x = bltN b) && glB sc x && noStar a && rec (.e .bo) sc A [a]
      | _ => false)
    | .isi ts A => (match args with
      | [a, .Tuple es _ _] => decide (x = "isinstance") && glB sc x && noStar a && tysC sc ts es && rec (.e .bo) sc A [a]
      | [a, .Name y q] => decide (x = "isinstance") && glB sc x && noStar a && decide (ts.length = 1) && tysC sc ts [.Name y q] && rec (.e .bo) sc A [a]
      | _ => false)
    | .mk cn F A => (match args with
      | [] => false
      | a :: args => decide (x = cn) && glB sc x && nmB x && noStar a && args.all noStar && rec .l sc A (a :: args))
    | .ob (.len cn) F A .nil => (match args with
      | [a] => decide (x = "len") && glB sc x && noStar a && rec (.e .bo) sc A [a]
      | _ => false)
    | .isc cn A => (match args with
      | [a, .Name y q] => decide (x = "isinstance") && glB sc x && decide (y = cn) && glB sc y && nmB y && noStar a && rec (.e .bo) sc A [a]
      | _ => false)
    | .dkeys A => (match args with
      | [a] => decide (x = "list") && glB sc x && noStar a && rec (.e .bo) sc A [a]
      | _ => false)
    | _ => false)
  | .Dict ks vs _ => (match ks, vs, E with
    | [], [], .dnew => true
    | _, _, _ => false)
  | .Attribute a x _ => (match E with
    | .fld cn y A => decide (m ≠ .ow) && decide (x = y) && plainBase a && rec (.e .bo) sc A [a]
    | .ob (.prop cn y) F A .nil => (decide (m ≠ .ow) || F.own) && decide (x = y) && plainBase a && rec (.e .bo) sc A [a]
    | _ => false)
  | .Call (.Attribute a nm ap) args [] p => (match E with
    | .mth mm A B => (match args with
      | [b] => decide (nm = mthN mm) && plainBase a && (ap.endLine == p.line) && noStar b && rec (.e .bo) sc A [a] && rec (.e .bo) sc B [b]
      | _ => false)
    | .ob (.meth cn mn) F A B => decide (nm = mn) && (decide (m ≠ .ow) || F.own) && plainBase a && (ap.endLine == p.line) && args.all noStar && decide (args.length < 20) && (!args.isEmpty || B.no) && rec (.e .bo) sc A [a] && rec .l sc B args
    | _ => false)
  | .ListComp elt [⟨tg, iter, ifs, 0⟩] scope _ => (match E with
    | .lc own pt S T E' => lcC N rec sc own pt S T E' elt tg iter ifs scope
    | _ => false)
  | .ListComp elt [⟨tg, iter, ifs, 0⟩, ⟨tg1, iter1, ifs1, 0⟩] scope _ => (match E with
    | .lc2 own pt S T js pt1 S1 T1 E' => lc2C N rec sc own pt S T js pt1 S1 T1 E' elt tg iter ifs tg1 iter1 ifs1 scope
    | _ => false)
  | _ => false
def stepT (rec : Rec) (sc : Scope) (E : Ex) (e : Expr) : Bool :=
  match e with
  | .UnaryOp .Not a _ => (match E with
    | .not A => rec .t sc A [a]
    | _ => false)
  | .BoolOp op es p => rec .w sc E [.BoolOp op es p]
  | .Compare a ops bs _ => (match ops, bs, E with
    | [op], [b], .cmp o A B => decide (op = copOf o) && notSetB b && rec (.e .bo) sc A [a] && rec (.e .bo) sc B [b]
    | [op, op'], [b, c], .chn o o' A B C => decide (op = copOf o) && decide (op' = copOf o') && notSetB c && rec (.e .bo) sc A [a] && rec (.e .bo) sc B [b] && rec (.e .bo) sc C [c]
    | [op], [b], .ob (.eq _) _ A (.cons B .nil) => decide (op = .Eq) && notSetB b && rec (.e .bo) sc A [a] && rec (.e .bo) sc B [b]
    | [op], [b], .din A B => decide (op = .In) && notSetB b && rec (.e .bo) sc A [a] && rec (.e .bo) sc B [b]
    | _, _, _ => false)
  | .IfExp .. => false
  | e => rec (.e .bo) sc E [e]
def stepW (rec : Rec) (sc : Scope) (E : Ex) (e : Expr) : Bool :=
  match e with
  | .BoolOp op es p => (match es with
    | [a] => rec .t sc E [a]
    | a :: b :: rest => (match op, E with
      | .And, .and A B => rec .t sc A [a] && rec .w sc B [.BoolOp .And (b :: rest) p]
      | .Or, .or A B => rec .t sc A [a] && rec .w sc B [.BoolOp .Or (b :: rest) p]
      | _, _ => false)
    | [] => false)
  | _ => false
def stepL (rec : Rec) (sc : Scope) (E : Ex) (es : List Expr) : Bool :=
  match E, es with
  | .nil, [] => true
  | .cons A B, e :: es => noStar e && rec (.e .sh) sc A [e] && rec .l sc B es
  | _, _ => false
def stepB (rec : Rec) (sc : Scope) (E : Ex) (es : List Expr) : Bool :=
  match E, es with
  | .nil, [] => true
  | .cons A B, e :: es => noStar e && rec (.e .bo) sc A [e] && rec .b sc B es
  | _, _ => false
def popC (N : List Str) (sc : Scope) (i : Nat) (e : Expr) : Bool := match e with
  | .Call (.Attribute (.Name x _) nm ap) [.Constant (.int z) _ _] [] cp => decide (nm = "pop") && decide (z = 0) && decide (N[i]? = some x) && visB sc x && nmB x && (ap.endLine == cp.line)
  | _ => false
def stepP (N : List Str) (rec : Rec) (i : Nat) (sc : Scope) (E : Ex) (es : List Expr) : Bool :=
  match E, es with
  | .nil, [e] => popC N sc i e
  | .cons A B, e :: es => noStar e && rec (.e .sh) sc A [e] && rec (.p i) sc B es
  | _, _ => false
def stepO (rec : Rec) (sc : Scope) (E : Ex) (es : List Expr) : Bool :=
  match es with
  | [] => E.no
  | [e] => !E.no && rec (.e .bo) sc E [e]
  | _ => false
def stepI (rec : Rec) (m : Md) (sc : Scope) (E : Ex) (tg e : Expr) : Bool :=
  decide (m ≠ .ow) && match E with
  | .enu A => (match e with
    | .Call (.Name x _) [a] [] _ => decide (x = "enumerate") && glB sc x && isTup tg && noStar a && rec (.e m) sc A [a]
    | _ => false)
  | .zip A B => (match e with
    | .Call (.Name x _) [a, b] [] _ => decide (x = "zip") && glB sc x && isTup tg && noStar a && noStar b && rec (.e m) sc A [a] && rec (.e m) sc B [b]
    | _ => false)
  | .rng A => (match e with
    | .Call (.Name x _) [a] [] _ => decide (x = "range") && glB sc x && noStar a && rec (.e .bo) sc A [a]
    | _ => false)
  | E => rec (.e m) sc E [e]
def chk (N : List Str) : Nat → Rec
  | 0, _, _, _, _ => false
  | n + 1, kn, sc, E, es => match kn with
    | .e m => (match es with
      | [e] => stepE N (chk N n) m sc E e
      | _ => false)
    | .t => (match es with
      | [e] => stepT (chk N n) sc E e
      | _ => false)
    | .w => (match es with
      | [e] => stepW (chk N n) sc E e
      | _ => false)
    | .l => stepL (chk N n) sc E es
    | .b => stepB (chk N n) sc E es
    | .p i => stepP N (chk N n) i sc E es
    | .o => stepO (chk N n) sc E es
    | .i m => (match es with
      | [tg, e] => stepI (chk N n) m sc E tg e
      | _ => false)

def ObFact (G : Sur) (k : Nat) (o : Obk) (F : Fn) : Prop := match o with
  | .meth c m => MthFact G k c m F
  | .prop c x => ∃ j, j + 1 ≤ k ∧ PropFact G j c x F
  | .len c => ∃ j, j + 1 ≤ k ∧ MthFact G j c "__len__" F
  | .eq c => MthFact G k c "__eq__" F
  | .item c => MthFact G k c "__getitem__" F
  | .tru c => MthFact G k c "__bool__" F
/-- what a term rests on -/
def Need (G : Sur) (k : Nat) : Ex → Prop
  | .nil => True
  | .cons a b => Need G k a ∧ Need G k b
  | .var _ => True
  | .bor _ => True
  | .con _ => True
  | .glo x d => GloOk G x d
  | .tup a => Need G k a
  | .lst a => Need G k a
  | .bin _ a b => Need G k a ∧ Need G k b
  | .neg a => Need G k a
  | .cmp _ a b => Need G k a ∧ Need G k b
  | .chn _ _ a b c => Need G k a ∧ Need G k b ∧ Need G k c
  | .and a b => Need G k a ∧ Need G k b
  | .or a b => Need G k a ∧ Need G k b
  | .not a => Need G k a
  | .ite t a b => Need G k t ∧ Need G k a ∧ Need G k b
  | .idx a b => Need G k a ∧ Need G k b
  | .slc a b c => Need G k a ∧ Need G k b ∧ Need G k c
  | .call f F a => FnFact G k f F ∧ Need G k a
  | .blt _ a => Need G k a
  | .isi _ a => Need G k a
  | .mth _ a b => Need G k a ∧ Need G k b
  | .lc _ _ a b c => Need G k a ∧ Need G k b ∧ Need G k c
  | .enu a => Need G k a
  | .zip a b => Need G k a ∧ Need G k b
  | .rng a => Need G k a
  | .hix _ _ => True
  | .srs a => Need G k a
  | .callb f F a => FnFact G k f F ∧ Need G k a
  | .fld c x a => FldFact G c x ∧ Need G k a
  | .ob o F a es => ObFact G k o F ∧ Need G k a ∧ Need G k es
  | .mk c F es => (∃ j, j + 1 ≤ k ∧ MkFact G j c F) ∧ Need G k es
  | .inob c F a b => MthFact G k c "__contains__" F ∧ Need G k a ∧ Need G k b
  | .isc c a => IscFact G c ∧ Need G k a
  | .dnew => True
  | .din a b => Need G k a ∧ Need G k b
  | .dget a b => Need G k a ∧ Need G k b
  | .dkeys a => Need G k a
  | .rev a => Need G k a
  | .lc2 _ _ a b _ _ c d e => Need G k a ∧ Need G k b ∧ Need G k c ∧ Need G k d ∧ Need G k e
abbrev bootN : List Str := ["len", "all", "any", "tuple", "list", "int", "isinstance", "bool", "str", "enumerate", "zip", "range", "sorted", "set"]
def Boots (mg : Str → Option Value) : Prop := ∀ x ∈ bootN, mg x = none
theorem bltN_boot (b : Blt) : bltN b ∈ bootN := by cases b <;> decide
theorem kind_boot : ∀ t ∈ kinds, PySem.Str.ofString t ∈ bootN := by decide

def Res (N : List Str) (k : Nat) (W0 : Wl) (kn : Kn) (sc : Scope) (E : Ex) (es : List Expr) : Prop :=
  ∀ (X : Cx) (R : XR), Cxt k N sc W0 R X → Boots X.mg → Need (sur X) k E → match kn with
    | .e m => ∀ e, es = [e] → PE X e (tE (sur X) W0 R m E)
    | .t => ∀ e, es = [e] → PT X e (tT (sur X) W0 R E)
    | .w => ∀ e, es = [e] → PW X e (tT (sur X) W0 R E)
    | .l => PA X es (tL (sur X) W0 R E)
    | .b => PA X es (tLb (sur X) W0 R E)
    | .p i => PA X es (tLp (sur X) W0 R i E)
    | .o => ∀ o, es = Option.toList o → PO X o (tO (sur X) W0 R E)
    | .i m => ∀ tg e, es = [tg, e] → PI X tg e (tI (sur X) W0 R (isPr E) m E)
section
variable {N : List Str} {k : Nat} {W0 : Wl} {rec : Rec} {X : Cx} {R : XR} {sc : Scope}
theorem vis_of (c : Cxt k N sc W0 R X) {x : Str} (h : visB sc x = true) : Vis X.env.scope x := by
  rw [c.sc]
  unfold visB at h
  unfold Vis
  split at h
  · rename_i q; exact .inl q
  · rename_i q; exact .inr (.inl q)
  · rename_i q; exact .inr (.inr q)
  · cases h
theorem loc_of {sc : Scope} {x : Str} (h : locB sc x = true) : L2.Loc sc x := by
  unfold locB at h
  unfold L2.Loc
  split at h
  · rename_i q; exact .inl q
  · rename_i q; exact .inr q
  · cases h
theorem gl_of (c : Cxt k N sc W0 R X) {x : Str} (h : glB sc x = true) : Gl X x := by
  unfold Gl Env.kindOf
  rw [c.sc]
  unfold glB at h
  split at h
  · rename_i q; exact q
  · cases h
theorem nm_of {x : Str} (h : nmB x = true) : (x == ("__debug__" : Str)) = false ∧ (x == ("__classdict__" : Str)) = false := by
  unfold nmB at h
  rw [Bool.and_eq_true, Bool.not_eq_true', Bool.not_eq_true'] at h
  exact h
theorem md_of {m : Md} (h : decide (m ≠ .ow) = true) : m = .sh ∨ m = .bo := by
  cases m with
  | sh => exact .inl rfl
  | bo => exact .inr rfl
  | ow => cases h
/-- the block's surroundings -/
theorem Cxt.blk (c : Cxt k N sc W0 R X) {s : Shared} {H : Hp} {scope : Scope} {C : Addr} {cl : List (Str × Addr)} {fp : List Addr} (hk : scope.kind = .function) : Cxt k N (relS scope sc) W0 (fun _ _ => False) (X.blk s H scope (compEnvC scope cl C X.env) fp) where
  n := c.n
  nd := c.nd
  sc := by rw [← c.sc]; rfl
  kind := hk
  calm := c.calm
  room := c.room
  pass := fun pins σ H s e s' I h => by
    obtain ⟨a, B, H', cls, d, _, _, _, _, _, _, _, z⟩ := h
    obtain ⟨x, S', W', _, _, _, _, f⟩ := z
    exact f
theorem types_of (c : Cxt k N sc W0 R X) (hb : Boots X.mg) {ts : List String} {es : List Expr} (h : tysC sc ts es = true) : (∀ t ∈ ts, t ∈ kinds ∧ Gl X (PySem.Str.ofString t) ∧ X.mg (PySem.Str.ofString t) = none) ∧ tyNs es = (ts.map fun t => some (PySem.Str.ofString t)) ∧ ts.length ≤ sizeLine := by
  unfold tysC at h
  rw [Bool.and_eq_true, Bool.and_eq_true, List.all_eq_true] at h
  obtain ⟨⟨h1, h2⟩, h3⟩ := h
  refine ⟨fun t ht => ?_, of_decide_eq_true h2, ?_⟩
  · have q := h1 t ht
    rw [Bool.and_eq_true] at q
    have q1 : t ∈ kinds := by simpa using q.1
    exact ⟨q1, gl_of c q.2, hb _ (kind_boot t q1)⟩
  · have := of_decide_eq_true h3
    rw [sizeLine_eq]
    omega
theorem stepL_ok (ih : ∀ kn sc E es, rec kn sc E es = true → Res N k W0 kn sc E es) {E : Ex} {es : List Expr} (h : stepL rec sc E es = true) : Res N k W0 .l sc E es := by
  intro X R c hb hn
  unfold stepL at h
  split at h
  · exact r_nil
  · rename_i A B e es
    rw [Bool.and_eq_true, Bool.and_eq_true] at h
    exact r_cons h.1.1 (ih _ _ _ _ h.1.2 X R c hb hn.1 _ rfl) (ih _ _ _ _ h.2 X R c hb hn.2)
  · cases h
theorem stepB_ok (ih : ∀ kn sc E es, rec kn sc E es = true → Res N k W0 kn sc E es) {E : Ex} {es : List Expr} (h : stepB rec sc E es = true) : Res N k W0 .b sc E es := by
  intro X R c hb hn
  unfold stepB at h
  split at h
  · exact r_nilB
  · rename_i A B e es
    rw [Bool.and_eq_true, Bool.and_eq_true] at h
    exact r_consB h.1.1 (ih _ _ _ _ h.1.2 X R c hb hn.1 _ rfl) (ih _ _ _ _ h.2 X R c hb hn.2)
  · cases h
theorem stepP_ok (ih : ∀ kn sc E es, rec kn sc E es = true → Res N k W0 kn sc E es) {i : Nat} {E : Ex} {es : List Expr} (h : stepP N rec i sc E es = true) : Res N k W0 (.p i) sc E es := by
  intro X R c hb hn
  unfold stepP at h
  split at h
  · rename_i e
    unfold popC at h
    split at h
    · rename_i x _ nm ap z _ _ cp
      simp only [Bool.and_eq_true] at h
      obtain ⟨⟨⟨⟨⟨h1, h2⟩, h3⟩, h4⟩, h5⟩, h6⟩ := h
      obtain rfl := of_decide_eq_true h1
      obtain rfl := of_decide_eq_true h2
      exact r_popA (pe_var (by rw [c.n]; exact of_decide_eq_true h3) (vis_of c h4) (nm_of h5).1 (nm_of h5).2) h6
    · cases h
  · rename_i A B e es
    rw [Bool.and_eq_true, Bool.and_eq_true] at h
    exact r_consP h.1.1 (ih _ _ _ _ h.1.2 X R c hb hn.1 _ rfl) (ih _ _ _ _ h.2 X R c hb hn.2)
  · cases h
theorem stepO_ok (ih : ∀ kn sc E es, rec kn sc E es = true → Res N k W0 kn sc E es) {E : Ex} {es : List Expr} (h : stepO rec sc E es = true) : Res N k W0 .o sc E es := by
  intro X R c hb hn o ho
  cases o with
  | none =>
    subst ho
    cases E <;> first | exact o_none | cases h
  | some e =>
    subst ho
    have h' : (!E.no && rec (.e .bo) sc E [e]) = true := h
    rw [Bool.and_eq_true, Bool.not_eq_true'] at h'
    exact o_some (ih _ _ _ _ h'.2 X R c hb hn _ rfl) h'.1
theorem stepW_ok (ih : ∀ kn sc E es, rec kn sc E es = true → Res N k W0 kn sc E es) {E : Ex} {e : Expr} (h : stepW rec sc E e = true) : Res N k W0 .w sc E [e] := by
  intro X R c hb hn e' he
  cases he
  unfold stepW at h
  split at h
  · rename_i op es p
    split at h
    · rename_i a
      have q := ih _ _ _ _ h X R c hb hn _ rfl
      cases op with
      | And => exact tw_and1 q
      | Or => exact tw_or1 q
    · rename_i a b rest
      split at h
      · rename_i A B
        rw [Bool.and_eq_true] at h
        exact tw_and (ih _ _ _ _ h.1 X R c hb hn.1 _ rfl) (ih _ _ _ _ h.2 X R c hb hn.2 _ rfl)
      · rename_i A B
        rw [Bool.and_eq_true] at h
        exact tw_or (ih _ _ _ _ h.1 X R c hb hn.1 _ rfl) (ih _ _ _ _ h.2 X R c hb hn.2 _ rfl)
      · cases h
    · cases h
  · cases h
theorem stepT_ok (ih : ∀ kn sc E es, rec kn sc E es = true → Res N k W0 kn sc E es) {E : Ex} {e : Expr} (h : stepT rec sc E e = true) : Res N k W0 .t sc E [e] := by
  intro X R c hb hn e' he
  cases he
  have val : rec (.e .bo) sc E [e] = true → (∀ whole, isTrue e X.env whole = (do let v ← whole; standAt e.pos; holding [v] (truthy v))) → PT X e (tT (sur X) W0 R E) := fun h hx => t_val (ih _ _ _ _ h X R c hb hn _ rfl) hx
  unfold stepT at h
  split at h
  · rename_i a p
    split at h
    · exact t_not (ih _ _ _ _ h X R c hb hn _ rfl)
    · cases h
  · exact (ih _ _ _ _ h X R c hb hn _ rfl).pt
  · rename_i a ops bs p
    split at h
    · rename_i op b o A B
      rw [Bool.and_eq_true, Bool.and_eq_true, Bool.and_eq_true] at h
      obtain ⟨⟨⟨h1, h2⟩, h3⟩, h4⟩ := h
      obtain rfl := of_decide_eq_true h1
      exact t_cmp c.room.units o h2 (ih _ _ _ _ h3 X R c hb hn.1 _ rfl) (ih _ _ _ _ h4 X R c hb hn.2 _ rfl)
    · rename_i op op' b c' o o' A B C
      rw [Bool.and_eq_true, Bool.and_eq_true, Bool.and_eq_true, Bool.and_eq_true, Bool.and_eq_true] at h
      obtain ⟨⟨⟨⟨⟨h1, h2⟩, h3⟩, h4⟩, h5⟩, h6⟩ := h
      obtain rfl := of_decide_eq_true h1
      obtain rfl := of_decide_eq_true h2
      exact t_chn c.room.units o o' h3 (ih _ _ _ _ h4 X R c hb hn.1 _ rfl) (ih _ _ _ _ h5 X R c hb hn.2.1 _ rfl) (ih _ _ _ _ h6 X R c hb hn.2.2 _ rfl)
    · simp only [Bool.and_eq_true] at h
      obtain ⟨⟨⟨h1, h2⟩, h3⟩, h4⟩ := h
      obtain rfl := of_decide_eq_true h1
      exact t_eqO hn.1 c.room c.pass h2 (ih _ _ _ _ h3 X R c hb hn.2.1 _ rfl) (ih _ _ _ _ h4 X R c hb hn.2.2.1 _ rfl)
    · simp only [Bool.and_eq_true] at h
      obtain ⟨⟨⟨h1, h2⟩, h3⟩, h4⟩ := h
      obtain rfl := of_decide_eq_true h1
      exact t_din c.room.units h2 (ih _ _ _ _ h3 X R c hb hn.1 _ rfl) (ih _ _ _ _ h4 X R c hb hn.2 _ rfl)
    · cases h
  · cases h
  · rename_i h1 h2 h3 h4
    refine val h fun whole => ?_
    cases e with
    | UnaryOp op a p =>
      cases op with
      | Not => exact absurd rfl (h1 a p)
      | _ => rfl
    | BoolOp op es p => exact absurd rfl (h2 op es p)
    | Compare a ops bs p => exact absurd rfl (h3 a ops bs p)
    | IfExp a b c p => exact absurd rfl (h4 a b c p)
    | _ => rfl
theorem stepI_ok (ih : ∀ kn sc E es, rec kn sc E es = true → Res N k W0 kn sc E es) {m : Md} {E : Ex} {tg e : Expr} (h : stepI rec m sc E tg e = true) : Res N k W0 (.i m) sc E [tg, e] := by
  intro X R c hb hn tg' e' he
  cases he
  unfold stepI at h
  rw [Bool.and_eq_true] at h
  obtain ⟨hm, h⟩ := h
  have hm := md_of hm
  split at h
  · rename_i A
    split at h
    · rename_i x p a pos
      simp only [Bool.and_eq_true] at h
      obtain ⟨⟨⟨⟨h1, h2⟩, h3⟩, h4⟩, h5⟩ := h
      obtain rfl := of_decide_eq_true h1
      cases tg with
      | Tuple es x p => exact s_enum hm (gl_of c h2) (hb _ (by decide)) h4 (ih _ _ _ _ h5 X R c hb hn _ rfl)
      | _ => cases h3
    · cases h
  · rename_i A B
    split at h
    · rename_i x p a b pos
      simp only [Bool.and_eq_true] at h
      obtain ⟨⟨⟨⟨⟨⟨h1, h2⟩, h3⟩, h4⟩, h5⟩, h6⟩, h7⟩ := h
      obtain rfl := of_decide_eq_true h1
      cases tg with
      | Tuple es x p => exact s_zip (gl_of c h2) (hb _ (by decide)) h4 h5 hm (ih _ _ _ _ h6 X R c hb hn.1 _ rfl) (ih _ _ _ _ h7 X R c hb hn.2 _ rfl)
      | _ => cases h3
    · cases h
  · rename_i A
    split at h
    · rename_i x p a pos
      simp only [Bool.and_eq_true] at h
      obtain ⟨⟨⟨h1, h2⟩, h3⟩, h4⟩ := h
      obtain rfl := of_decide_eq_true h1
      exact s_rng (gl_of c h2) (hb _ (by decide)) h3 (ih _ _ _ _ h4 X R c hb hn _ rfl)
    · cases h
  · exact s_any hm (ih _ _ _ _ h X R c hb hn _ rfl)
theorem lcC_ok (ih : ∀ kn sc E es, rec kn sc E es = true → Res N k W0 kn sc E es) {own : List (Str × Nat)} {pt : Pt} {S T E : Ex} {elt tg iter : Expr} {ifs : List Expr} {scope : Scope} (h : lcC N rec sc own pt S T E elt tg iter ifs scope = true)
    (c : Cxt k N sc W0 R X) (hb : Boots X.mg) (hn : Need (sur X) k (.lc own pt S T E)) :
    PI X tg iter (tI (sur X) W0 R (isPr S) .bo S) ∧ BlkOk X.N X.env.scope scope own ∧ (isPr S = false ∨ ∃ is, pt = .many is) ∧ (∀ j, j ∈ ptIx pt → j ∈ own.map (·.2)) ∧
    (∀ (s : Shared) (H : Hp) (C : Addr) (cl : List (Str × Addr)) (fp : List Addr), PG (X.blk s H scope (compEnvC scope cl C X.env) fp) tg (gP X.K pt)) ∧
    (∀ (s : Shared) (H : Hp) (C : Addr) (cl : List (Str × Addr)) (fp : List Addr), PTs (X.blk s H scope (compEnvC scope cl C X.env) fp) ifs (tT (sur X) W0 (fun _ _ => False) T)) ∧
    (∀ (s : Shared) (H : Hp) (C : Addr) (cl : List (Str × Addr)) (fp : List Addr), PE (X.blk s H scope (compEnvC scope cl C X.env) fp) elt (tE (sur X) W0 (fun _ _ => False) .sh E)) ∧ ∀ x, foldedSetIterable iter X.env x = pure x := by
  unfold lcC at h
  simp only [Bool.and_eq_true] at h
  obtain ⟨⟨⟨⟨⟨⟨⟨h1, h2⟩, h3⟩, h4⟩, h5⟩, h6⟩, h7⟩, h8⟩ := h
  have ok := blkOk_by h1
  refine ⟨ih _ _ _ _ h6 X R c hb hn.1 _ _ rfl, by rw [c.n, c.sc]; exact ok, ?_, fun j hj => ?_, fun s H C cl fp => ?_, fun s H C cl fp => ?_, fun s H C cl fp => ih _ _ _ _ h8 (X.blk s H scope (compEnvC scope cl C X.env) fp) _ (c.blk ok.kind) hb hn.2.2 _ rfl, fun x => ?_⟩
  · cases hs : isPr S with
    | false => exact .inl rfl
    | true =>
      rw [hs] at h4
      cases pt with
      | one i => cases h4
      | many is => exact .inr ⟨is, rfl⟩
  · rw [List.all_eq_true] at h2
    simpa using h2 j hj
  · refine pg_pt (X := X.blk s H scope (compEnvC scope cl C X.env) fp) (ok := locB scope) c.calm (show X.N.Nodup by rw [c.n]; exact c.nd) (fun x hx => ?_) pt tg (by show ptC X.N _ pt tg = true; rw [c.n]; exact h3)
    rcases loc_of hx with q | q
    · have q' := lookup_relS_keep (sc := X.env.scope) (by decide) q
      exact ⟨.inl q', .inr q'⟩
    · have q' := lookup_relS_keep (sc := X.env.scope) (by decide) q
      exact ⟨.inr q', .inl (by show (scope.names.lookup x == some NameKind.cell) = true; rw [q]; rfl)⟩
  · have cb : Cxt k N (relS scope sc) W0 (fun _ _ => False) (X.blk s H scope (compEnvC scope cl C X.env) fp) := c.blk ok.kind
    split at h7
    · cases T with
      | con c => cases c with
        | bool b => cases b with
          | true => exact pts_no rfl
          | false => cases h7
        | _ => cases h7
      | _ => cases h7
    · exact pts_one (ih _ _ _ _ h7 _ _ cb hb hn.2.1 _ rfl)
    · cases h7
  · cases iter <;> first | rfl | cases h5
theorem tst_ok (ih : ∀ kn sc E es, rec kn sc E es = true → Res N k W0 kn sc E es) {T : Ex} {ifs : List Expr} (h : tstC rec sc T ifs = true) (cb : Cxt k N sc W0 R X) (hb : Boots X.mg) (hn : Need (sur X) k T) : PTs X ifs (tT (sur X) W0 R T) := by
  unfold tstC at h
  split at h
  · cases T with
    | con c => cases c with
      | bool b => cases b with
        | true => exact pts_no rfl
        | false => cases h
      | _ => cases h
    | _ => cases h
  · exact pts_one (ih _ _ _ _ h _ _ cb hb hn _ rfl)
  · cases h
theorem lc2C_ok (ih : ∀ kn sc E es, rec kn sc E es = true → Res N k W0 kn sc E es) {m : Md} {own : List (Str × Nat)} {pt pt1 : Pt} {S T S1 T1 E : Ex} {js : List Nat} {elt tg iter tg1 iter1 : Expr} {ifs ifs1 : List Expr} {scope : Scope} {pos : Pos} (h : lc2C N rec sc own pt S T js pt1 S1 T1 E elt tg iter ifs tg1 iter1 ifs1 scope = true)
    (c : Cxt k N sc W0 R X) (hb : Boots X.mg) (hn : Need (sur X) k (.lc2 own pt S T js pt1 S1 T1 E)) : PE X (.ListComp elt [⟨tg, iter, ifs, 0⟩, ⟨tg1, iter1, ifs1, 0⟩] scope pos) (tE (sur X) W0 R m (.lc2 own pt S T js pt1 S1 T1 E)) := by
  unfold lc2C at h
  simp only [Bool.and_eq_true] at h
  obtain ⟨⟨⟨⟨⟨⟨⟨⟨⟨⟨⟨⟨⟨⟨h1, h2⟩, h3⟩, h4⟩, h5⟩, h6⟩, h7⟩, h8⟩, h9⟩, h10⟩, h11⟩, h12⟩, h13⟩, h14⟩, h15⟩ := h
  have ok := blkOk_by h1
  have many : ∀ {pt : Pt} {S : Ex}, (isMany pt || !isPr S) = true → isPr S = false ∨ ∃ is, pt = .many is := fun {pt S} q => by
    cases hs : isPr S with
    | false => exact .inl rfl
    | true =>
      rw [hs] at q
      cases pt with
      | one i => cases q
      | many is => exact .inr ⟨is, rfl⟩
  have pgs : ∀ {pt : Pt} {tg : Expr}, ptC N (locB scope) pt tg = true → ∀ (s : Shared) (H : Hp) (C : Addr) (cl : List (Str × Addr)) (fp : List Addr), PG (X.blk s H scope (compEnvC scope cl C X.env) fp) tg (gP X.K pt) := fun {pt tg} q s H C cl fp => by
    refine pg_pt (X := X.blk s H scope (compEnvC scope cl C X.env) fp) (ok := locB scope) c.calm (show X.N.Nodup by rw [c.n]; exact c.nd) (fun x hx => ?_) pt tg (by show ptC X.N _ pt tg = true; rw [c.n]; exact q)
    rcases loc_of hx with q | q
    · have q' := lookup_relS_keep (sc := X.env.scope) (by decide) q
      exact ⟨.inl q', .inr q'⟩
    · have q' := lookup_relS_keep (sc := X.env.scope) (by decide) q
      exact ⟨.inr q', .inl (by show (scope.names.lookup x == some NameKind.cell) = true; rw [q]; rfl)⟩
  have cb : ∀ (s : Shared) (H : Hp) (C : Addr) (cl : List (Str × Addr)) (fp : List Addr), Cxt k N (relS scope sc) W0 (fun _ _ => False) (X.blk s H scope (compEnvC scope cl C X.env) fp) := fun s H C cl fp => c.blk ok.kind
  rw [List.all_eq_true] at h2 h3 h4
  refine r_lc2 (ms := .bo) c.calm (by rw [c.n]; exact c.nd) (ih _ _ _ _ h11 X R c hb hn.1 _ _ rfl) (by rw [c.n, c.sc]; exact ok) (many h7) (many h8) (fun j hj => by simpa using h2 j hj) (fun j hj => by simpa using h3 j hj) (fun j hj => by simpa using h4 j hj) (pgs h5)
    (fun s H C cl fp => tst_ok ih h13 (cb s H C cl fp) hb hn.2.1) (fun s H C cl fp => ih _ _ _ _ h12 (X.blk s H scope (compEnvC scope cl C X.env) fp) _ (cb s H C cl fp) hb hn.2.2.1 _ _ rfl) (pgs h6) (fun s H C cl fp => tst_ok ih h14 (cb s H C cl fp) hb hn.2.2.2.1)
    (fun s H C cl fp => ih _ _ _ _ h15 (X.blk s H scope (compEnvC scope cl C X.env) fp) _ (cb s H C cl fp) hb hn.2.2.2.2 _ rfl) (fun x => ?_) (fun env x => ?_)
  · cases iter <;> first | rfl | cases h9
  · cases iter1 <;> first | rfl | cases h10
theorem stepE_ok (ih : ∀ kn sc E es, rec kn sc E es = true → Res N k W0 kn sc E es) {m : Md} {E : Ex} {e : Expr} (h : stepE N rec m sc E e = true) : Res N k W0 (.e m) sc E [e] := by
  intro X R c hb hn e' he
  cases he
  unfold stepE at h
  split at h
  · rename_i op es p
    split at h
    · exact r_one (ih _ _ _ _ h X R c hb hn _ rfl)
    · split at h
      · simp only [Bool.and_eq_true] at h
        exact r_and (ih _ _ _ _ h.1.2 X R c hb hn.1 _ rfl) (md_of h.1.1) (ih _ _ _ _ h.2 X R c hb hn.2 _ rfl)
      · simp only [Bool.and_eq_true] at h
        exact r_or (ih _ _ _ _ h.1.2 X R c hb hn.1 _ rfl) (md_of h.1.1) (ih _ _ _ _ h.2 X R c hb hn.2 _ rfl)
      · cases h
    · cases h
  · rename_i x p
    split at h
    · simp only [Bool.and_eq_true] at h
      obtain ⟨⟨⟨h1, h2⟩, h3⟩, h4⟩ := h
      obtain ⟨n1, n2⟩ := nm_of h4
      exact r_var _ (by rw [c.n]; exact of_decide_eq_true h2) (vis_of c h3) n1 n2 (md_of h1)
    · simp only [Bool.and_eq_true] at h
      obtain ⟨⟨⟨h1, h2⟩, h3⟩, h4⟩ := h
      obtain ⟨n1, n2⟩ := nm_of h4
      obtain rfl := of_decide_eq_true h1
      exact r_bor _ (by rw [c.n]; exact of_decide_eq_true h2) (vis_of c h3) n1 n2
    · simp only [Bool.and_eq_true] at h
      obtain ⟨⟨⟨h1, h2⟩, h3⟩, h4⟩ := h
      obtain ⟨n1, n2⟩ := nm_of h4
      obtain rfl := of_decide_eq_true h2
      exact r_glo (gl_of c h3) hn n1 (md_of h1)
    · cases h
  · split at h
    · simp only [Bool.and_eq_true] at h
      obtain rfl := of_decide_eq_true h.1
      exact r_con h.2
    · cases h
  · split at h
    · exact r_tup (ih _ _ _ _ h X R c hb hn)
    · cases h
  · split at h
    · exact r_lst (ih _ _ _ _ h X R c hb hn)
    · cases h
  · split at h
    · simp only [Bool.and_eq_true] at h
      obtain rfl := of_decide_eq_true h.1.1
      exact r_bin _ m (ih _ _ _ _ h.1.2 X R c hb hn.1 _ rfl) (ih _ _ _ _ h.2 X R c hb hn.2 _ rfl)
    · cases h
  · split at h
    · exact r_neg (ih _ _ _ _ h X R c hb hn _ rfl)
    · exact r_not (ih _ _ _ _ h X R c hb hn _ rfl)
    · cases h
  · split at h
    · simp only [Bool.and_eq_true] at h
      obtain ⟨⟨⟨h1, h2⟩, h3⟩, h4⟩ := h
      obtain rfl := of_decide_eq_true h1
      exact r_cmp c.room.units _ h2 (ih _ _ _ _ h3 X R c hb hn.1 _ rfl) (ih _ _ _ _ h4 X R c hb hn.2 _ rfl)
    · simp only [Bool.and_eq_true] at h
      obtain ⟨⟨⟨⟨⟨h1, h2⟩, h3⟩, h4⟩, h5⟩, h6⟩ := h
      obtain rfl := of_decide_eq_true h1
      obtain rfl := of_decide_eq_true h2
      exact r_chn c.room.units _ _ h3 (ih _ _ _ _ h4 X R c hb hn.1 _ rfl) (ih _ _ _ _ h5 X R c hb hn.2.1 _ rfl) (ih _ _ _ _ h6 X R c hb hn.2.2 _ rfl)
    · simp only [Bool.and_eq_true] at h
      obtain ⟨⟨⟨h1, h2⟩, h3⟩, h4⟩ := h
      obtain rfl := of_decide_eq_true h1
      exact r_eqO hn.1 c.room c.pass h2 (ih _ _ _ _ h3 X R c hb hn.2.1 _ rfl) (ih _ _ _ _ h4 X R c hb hn.2.2.1 _ rfl)
    · simp only [Bool.and_eq_true] at h
      obtain ⟨⟨⟨h1, h2⟩, h3⟩, h4⟩ := h
      obtain rfl := of_decide_eq_true h1
      exact r_din c.room.units h2 (ih _ _ _ _ h3 X R c hb hn.1 _ rfl) (ih _ _ _ _ h4 X R c hb hn.2 _ rfl)
    · cases h
  · split at h
    · simp only [Bool.and_eq_true] at h
      exact r_ite (ih _ _ _ _ h.1.1 X R c hb hn.1 _ rfl) (ih _ _ _ _ h.1.2 X R c hb hn.2.1 _ rfl) (ih _ _ _ _ h.2 X R c hb hn.2.2 _ rfl)
    · cases h
  · split at h
    · split at h
      · rw [Bool.and_eq_true] at h
        obtain rfl := of_decide_eq_true h.1
        exact r_rev (ih _ _ _ _ h.2 X R c hb hn _ rfl)
      · cases h
    · split at h
      · simp only [Bool.and_eq_true] at h
        obtain ⟨⟨⟨h1, h2⟩, h3⟩, h4⟩ := h
        obtain rfl := of_decide_eq_true h1
        exact r_hix _ _ (by rw [c.n]; exact of_decide_eq_true h2) (vis_of c h3) (nm_of h4).1 (nm_of h4).2
      · cases h
    · split at h
      · simp only [Bool.and_eq_true] at h
        exact r_slc (ih _ _ _ _ h.1.1 X R c hb hn.1 _ rfl) (ih _ _ _ _ h.1.2 X R c hb hn.2.1 _ rfl) (ih _ _ _ _ h.2 X R c hb hn.2.2 _ rfl)
      · cases h
    · simp only [Bool.and_eq_true] at h
      exact r_idx (md_of h.1.1.1) h.1.1.2 (ih _ _ _ _ h.1.2 X R c hb hn.1 _ rfl) (ih _ _ _ _ h.2 X R c hb hn.2 _ rfl)
    · simp only [Bool.and_eq_true] at h
      exact r_dget c.room.units h.1.1 (ih _ _ _ _ h.1.2 X R c hb hn.1 _ rfl) (ih _ _ _ _ h.2 X R c hb hn.2 _ rfl)
    · cases h
  · rename_i x q args p
    split at h
    · rename_i f F A
      simp only [Bool.and_eq_true] at h
      obtain ⟨⟨⟨⟨h1, h2⟩, h3⟩, h4⟩, h5⟩ := h
      obtain rfl := of_decide_eq_true h1
      have hm : m = .ow → F.own = true := fun z => by
        subst z
        have z2 : (false || F.own) = true := h4
        simpa using z2
      cases args with
      | nil =>
        cases A <;> first | exact r_call0 hn.1 c.room (gl_of c h2) c.pass hm (nm_of h3).1 | cases h5
      | cons a args =>
        simp only [Bool.and_eq_true] at h5
        exact r_call hn.1 c.room (gl_of c h2) c.pass hm (nm_of h3).1 h5.1.1 h5.1.2 (ih _ _ _ _ h5.2 X R c hb hn.2)
    · rename_i f F A
      simp only [Bool.and_eq_true] at h
      obtain ⟨⟨⟨h1, h2⟩, h3⟩, h5⟩ := h
      obtain rfl := of_decide_eq_true h1
      cases args with
      | nil => cases h5
      | cons a args =>
        simp only [Bool.and_eq_true] at h5
        exact r_callb hn.1 c.room (gl_of c h2) c.pass (nm_of h3).1 h5.1.1 h5.1.2 (ih _ _ _ _ h5.2 X R c hb hn.2)
    · split at h
      · simp only [Bool.and_eq_true] at h
        obtain ⟨⟨⟨⟨⟨h1, h2⟩, h3⟩, h4⟩, h5⟩, h6⟩ := h
        obtain rfl := of_decide_eq_true h1
        obtain rfl := of_decide_eq_true h2
        exact r_srs c.calm c.room.units (gl_of c h3) (hb _ (by decide)) (gl_of c h4) (hb _ (by decide)) h5 (ih _ _ _ _ h6 X R c hb hn _ rfl)
      · cases h
    · split at h
      · simp only [Bool.and_eq_true] at h
        obtain ⟨⟨⟨h1, h2⟩, h3⟩, h4⟩ := h
        obtain rfl := of_decide_eq_true h1
        exact r_blt _ c.calm (gl_of c h2) (hb _ (bltN_boot _)) h3 (ih _ _ _ _ h4 X R c hb hn _ rfl)
      · cases h
    · split at h
      · simp only [Bool.and_eq_true] at h
        obtain ⟨⟨⟨⟨h1, h2⟩, h3⟩, h4⟩, h5⟩ := h
        obtain rfl := of_decide_eq_true h1
        obtain ⟨t1, t2, t3⟩ := types_of c hb h4
        exact r_isiT t1 t3 (gl_of c h2) (hb _ (by decide)) t2 h3 (ih _ _ _ _ h5 X R c hb hn _ rfl)
      · simp only [Bool.and_eq_true] at h
        obtain ⟨⟨⟨⟨⟨h1, h2⟩, h3⟩, h4⟩, h5⟩, h6⟩ := h
        obtain rfl := of_decide_eq_true h1
        obtain ⟨t1, t2, t3⟩ := types_of c hb h5
        obtain ⟨t, rfl⟩ := List.length_eq_one_iff.mp (of_decide_eq_true h4)
        have t2' : [some _] = [some (PySem.Str.ofString t)] := t2
        injection t2' with t4
        injection t4 with t4
        subst t4
        obtain ⟨k1, k2, k3⟩ := t1 t List.mem_cons_self
        exact r_isi1 k1 (gl_of c h2) (hb _ (by decide)) k2 k3 h3 (ih _ _ _ _ h6 X R c hb hn _ rfl)
      · cases h
    · split at h
      · cases h
      · simp only [Bool.and_eq_true] at h
        obtain ⟨⟨⟨⟨⟨h1, h2⟩, h3⟩, h4⟩, h5⟩, h6⟩ := h
        obtain rfl := of_decide_eq_true h1
        obtain ⟨j, hj, M⟩ := hn.1
        exact r_mk M (c.room.mono hj) (gl_of c h2) c.pass (nm_of h3).1 h4 h5 (ih _ _ _ _ h6 X R c hb hn.2)
    · split at h
      · simp only [Bool.and_eq_true] at h
        obtain ⟨⟨⟨h1, h2⟩, h3⟩, h4⟩ := h
        obtain rfl := of_decide_eq_true h1
        obtain ⟨j, hj, M⟩ := hn.1
        exact r_lenO M (c.room.mono hj) c.pass (gl_of c h2) (hb _ (by decide)) h3 (ih _ _ _ _ h4 X R c hb hn.2.1 _ rfl)
      · cases h
    · split at h
      · simp only [Bool.and_eq_true] at h
        obtain ⟨⟨⟨⟨⟨⟨h1, h2⟩, h3⟩, h4⟩, h5⟩, h6⟩, h7⟩ := h
        obtain rfl := of_decide_eq_true h1
        obtain rfl := of_decide_eq_true h3
        exact r_isc hn.1 (gl_of c h2) (hb _ (by decide)) (gl_of c h4) (nm_of h5).1 h6 (ih _ _ _ _ h7 X R c hb hn.2 _ rfl)
      · cases h
    · split at h
      · simp only [Bool.and_eq_true] at h
        obtain ⟨⟨⟨h1, h2⟩, h3⟩, h4⟩ := h
        obtain rfl := of_decide_eq_true h1
        exact r_dkeys c.calm (gl_of c h2) (hb _ (by decide)) h3 (ih _ _ _ _ h4 X R c hb hn _ rfl)
      · cases h
    · cases h
  · split at h
    · exact r_dnew
    · cases h
  · split at h
    · simp only [Bool.and_eq_true] at h
      obtain ⟨⟨⟨h1, h2⟩, h3⟩, h4⟩ := h
      obtain rfl := of_decide_eq_true h2
      exact r_fld _ _ (md_of h1) h3 hn.1 (ih _ _ _ _ h4 X R c hb hn.2 _ rfl)
    · rename_i F A
      simp only [Bool.and_eq_true] at h
      obtain ⟨⟨⟨h1, h2⟩, h3⟩, h4⟩ := h
      obtain rfl := of_decide_eq_true h2
      have hm : m = .ow → F.own = true := fun z => by
        subst z
        have z2 : (false || F.own) = true := h1
        simpa using z2
      obtain ⟨j, hj, M⟩ := hn.1
      exact r_prop M (c.room.mono hj) hm h3 (ih _ _ _ _ h4 X R c hb hn.2.1 _ rfl)
    · cases h
  · split at h
    · split at h
      · simp only [Bool.and_eq_true] at h
        obtain ⟨⟨⟨⟨⟨h1, h2⟩, h3⟩, h4⟩, h5⟩, h6⟩ := h
        obtain rfl := of_decide_eq_true h1
        exact r_mth c.room.units _ h2 h3 h4 (ih _ _ _ _ h5 X R c hb hn.1 _ rfl) (ih _ _ _ _ h6 X R c hb hn.2 _ rfl)
      · cases h
    · rename_i args p cn mn F A B
      simp only [Bool.and_eq_true] at h
      obtain ⟨⟨⟨⟨⟨⟨⟨⟨h1, h2⟩, h3⟩, h4⟩, h5⟩, h6⟩, h7⟩, h8⟩, h9⟩ := h
      obtain rfl := of_decide_eq_true h1
      have hm : m = .ow → F.own = true := fun z => by
        subst z
        have z2 : (false || F.own) = true := h2
        simpa using z2
      refine r_meth hn.1 c.room c.pass hm h3 h4 h5 (of_decide_eq_true h6) (ih _ _ _ _ h8 X R c hb hn.2.1 _ rfl) (ih _ _ _ _ h9 X R c hb hn.2.2) fun z => ?_
      subst z
      have z2 : (false || B.no) = true := h7
      rw [Bool.false_or] at z2
      cases B <;> first | rfl | cases z2
    · cases h
  · split at h
    · obtain ⟨l1, l2, l3, l4, l5, l6, l7, l8⟩ := lcC_ok ih h c hb hn
      exact r_lc c.calm (by rw [c.n]; exact c.nd) l1 l2 l3 l4 l5 l6 l7 l8
    · cases h
  · split at h
    · exact lc2C_ok ih h c hb hn
    · cases h
  · cases h
theorem chk_ok : ∀ (n : Nat) (kn : Kn) (sc : Scope) (E : Ex) (es : List Expr), chk N n kn sc E es = true → Res N k W0 kn sc E es
  | 0, _, _, _, _, h => by cases h
  | n + 1, kn, sc, E, es, h => by
    have ih := chk_ok n
    unfold chk at h
    split at h
    · split at h
      · exact stepE_ok ih h
      · cases h
    · split at h
      · exact stepT_ok ih h
      · cases h
    · split at h
      · exact stepW_ok ih h
      · cases h
    · exact stepL_ok ih h
    · exact stepB_ok ih h
    · exact stepP_ok ih h
    · exact stepO_ok ih h
    · split at h
      · exact stepI_ok ih h
      · cases h
end
end Vr

/-! Statements: their readings and rules. -/
namespace Vr
open PySem PySem.Spec PyProof.Rows L2

structure Grw (W W' : Wl) : Prop where
  ad : W.ad <+: W'.ad
  f : Same W.f W'.f
theorem Grw.refl (W : Wl) : Grw W W := ⟨List.prefix_refl _, Same.refl _⟩
theorem Grw.trans {A B C : Wl} (x : Grw A B) (y : Grw B C) : Grw A C := ⟨x.ad.trans y.ad, x.f.trans y.f⟩
theorem Ext.grw {W W' : Wl} (e : Ext W W') : Grw W W' := ⟨e.ad, e.f⟩
structure Cxf (k : Nat) (N : List Str) (sc : Scope) (W0 : Wl) (R : XR) (X : Cx) : Prop extends Cxt k N sc W0 R X where
  fn : ∀ x, X.fn x = true
  po : PassesOwn (model X.prog X.w) X.A X.env X.xe
  tk : Takes X (fun cls d _ H => EXr (sur X) W0 R cls d H)
/-- the ends of a piece of code, from a world -/
structure Dn (own : Bool) (G : Sur) (W0 : Wl) (Dd : Ed) (W : Wl) (D : Ends) : Prop where
  nx : ∀ (ρ' : Ev) (S' : Store) (W' : Wl) (σ' : L2.St), At G W0 σ' W'.h W' S' ρ' → Grw W W' → Dd.nx ρ' S' → D.nx σ' W'.h
  rt : ∀ (d : Dt) (S' : Store) (z : V) (W' : Wl), Wd G W' S' → Ext W0 W' → Rz G.K (mdOf own) W0 W' z d → Dd.rt d S' → D.rt z W'.h
theorem Dn.on {own : Bool} {G : Sur} {W0 : Wl} {Dd : Ed} {W W1 : Wl} {D : Ends} (d : Dn own G W0 Dd W D) (g : Grw W W1) : Dn own G W0 Dd W1 D := ⟨fun ρ' S' W' σ' a g' q => d.nx ρ' S' W' σ' a (g.trans g') q, d.rt⟩
def tS (G : Sur) (W0 : Wl) (R : XR) (own : Bool) (s : Sm) : TS := fun D σ H => ∃ W S ρ Dd, At G W0 σ H W S ρ ∧ wps s R ρ S Dd ∧ Dn own G W0 Dd W D
theorem PS.imp {X : Cx} {st : Stmt} {t t' : TS} (h : PS X st t) (f : ∀ D σ H, t' D σ H → t D σ H) : PS X st t' := ⟨fun pins s σ H D I w => h.run pins s σ H D I (f D σ H w)⟩
theorem PSs.imp {X : Cx} {st : List Stmt} {t t' : TS} (h : PSs X st t) (f : ∀ D σ H, t' D σ H → t D σ H) : PSs X st t' := ⟨fun pins s σ H D I w => h.run pins s σ H D I (f D σ H w)⟩

/-- a new value is stored -/
theorem slot_new {K : PySem.W.Frag} {W0 W W' : Wl} {σ : L2.St} {ρ : Ev} {o : Bool} {i : Nat} {z : V} {d : Dt} {s : Sl} (ev : EvOk K W0.h W σ ρ) (e0 : Ext W0 W) (e : Ext W W') (r : Rz K (mdOf o) W W' z d) (hs : slotOf o d = some s) : EvOk K W0.h W' (σ.set i (some z)) (ρ.set i s) := by
  cases o with
  | false =>
    cases hs
    exact (ev.mono e).setSh i (show Rep K W' z d from r)
  | true =>
    cases d with
    | lst ds =>
      cases hs
      obtain ⟨l, vs, rfl, h1, h2, h3, h4, h5⟩ := (show Rz K .ow W W' z (.lst ds) from r).1 ds rfl
      refine (ev.mono e).setOw i ⟨⟨vs, h1, h2⟩, h3, h4, none_back e0 h5⟩ fun j es hj hr hq => ?_
      obtain ⟨x, e1, l', rfl, ⟨us, o1, _⟩, _⟩ := ev.at_ j _ hr
      rw [hq] at e1
      cases e1
      rw [h5] at o1
      cases o1
    | _ => cases hs
/-- a list of our own is shared -/
theorem At.shr {G : Sur} {W0 : Wl} {σ : L2.St} {H : Hp} {W : Wl} {S : Store} {ρ : Ev} (a : At G W0 σ H W S ρ) {i : Nat} {ds : List Dt} (hi : ρ[i]? = some (.ow ds)) : ∃ W', At G W0 σ H W' S (ρ.set i (.sh (.lst ds))) ∧ Grw W W' := by
  obtain ⟨x, h1, l, rfl, ⟨vs, o1, o2⟩, o3, o4, o5⟩ := a.ev.at_ i _ hi
  refine ⟨W.frz l (.lst vs), ⟨a.h, a.w.frz o1 o4 o3, a.e0.frz o5 o3, ?_⟩, ⟨List.prefix_refl _, same_upd o3⟩⟩
  refine ⟨by rw [List.length_set]; exact a.ev.len, fun j s q => ?_, fun j k es fs l' q1 q2 q3 q4 => ?_⟩
  · by_cases e : i = j
    · subst e
      have hlt : i < ρ.length := (List.getElem?_eq_some_iff.mp hi).1
      rw [List.getElem?_set_self hlt] at q
      cases q
      exact ⟨_, h1, _, rfl, .lst (SqL.of upd_same) (o2.frz o3)⟩
    · rw [List.getElem?_set_ne e] at q
      obtain ⟨x, e1, e2⟩ := a.ev.at_ j s q
      refine ⟨x, e1, ?_⟩
      cases s with
      | no => trivial
      | sh d =>
        obtain ⟨v, rfl, r⟩ := e2
        exact ⟨v, rfl, r.frz o3⟩
      | ow es =>
        obtain ⟨l', rfl, ⟨us, p1, p2⟩, p3, p4, p5⟩ := e2
        have ne : l' ≠ l := by
          rintro rfl
          exact e (a.ev.ne i j _ _ l' hi q h1 e1)
        exact ⟨l', rfl, ⟨us, p1, p2.frz o3⟩, (upd_ne ne).trans p3, p4, p5⟩
  · have g : ∀ (j : Nat) (es : List Dt), (ρ.set i (.sh (.lst ds)))[j]? = some (.ow es) → ρ[j]? = some (.ow es) := fun j es q => by
      by_cases e : i = j
      · subst e
        have hlt : i < ρ.length := (List.getElem?_eq_some_iff.mp hi).1
        rw [List.getElem?_set_self hlt] at q
        cases q
      · rw [List.getElem?_set_ne e] at q
        exact q
    exact a.ev.ne j k es fs l' (g j es q1) (g k fs q2) q3 q4

section
variable {k : Nat} {N : List Str} {sc : Scope} {W0 : Wl} {R : XR} {X : Cx} {own : Bool} {e b : Expr} {E A B C : Ex} {i : Nat} {x : Str} {pos p : Pos} {G : Sur} {s s2 : Sm} {D : Ends} {σ : L2.St} {H : Hp}
/-! ### the readings -/
theorem skip_read (h : tS G W0 R own .skip D σ H) : D.nx σ H := by
  obtain ⟨W, S, ρ, Dd, a, q, d⟩ := h
  have q' : Dd.nx ρ S := q
  have z := d.nx ρ S W σ (by rw [a.h]; exact a) (Grw.refl W) q'
  rw [a.h] at z
  exact z
theorem seq_read (h : tS G W0 R own (.seq s s2) D σ H) : tS G W0 R own s { D with nx := tS G W0 R own s2 D } σ H := by
  obtain ⟨W, S, ρ, Dd, a, q, d⟩ := h
  exact ⟨W, S, ρ, { Dd with nx := fun ρ' S' => wps s2 R ρ' S' Dd }, a, q, ⟨fun ρ' S' W' σ' a' g q' => ⟨W', S', ρ', Dd, a', q', d.on g⟩, d.rt⟩⟩
theorem shr_read (h : tS G W0 R own (.seq (.shr i) s2) D σ H) : tS G W0 R own s2 D σ H := by
  obtain ⟨W, S, ρ, Dd, a, q, d⟩ := h
  have q' : wps (.shr i) R ρ S { Dd with nx := fun ρ' S' => wps s2 R ρ' S' Dd } := q
  unfold wps at q'
  split at q'
  · rename_i ds hi
    obtain ⟨W', a', g⟩ := a.shr hi
    exact ⟨W', S, _, Dd, a', q', d.on g⟩
  · exact ⟨W, S, ρ, Dd, a, q', d⟩
theorem asg_read (h : tS G W0 R own (.asg i E) D σ H) : tE G W0 R .sh E σ H fun v H1 => D.nx (σ.set i (some v)) H1 := by
  obtain ⟨W, S, ρ, Dd, a, q, d⟩ := h
  exact one (m := .sh) a q fun v dd W1 S1 a1 e1 r1 q1 => d.nx _ S1 W1 _ ⟨rfl, a1.w, a1.e0, a1.ev.setSh i r1⟩ e1.grw q1
theorem own_read (h : tS G W0 R own (.own i E) D σ H) : tE G W0 R .ow E σ H fun v H1 => D.nx (σ.set i (some v)) H1 := by
  obtain ⟨W, S, ρ, Dd, a, q, d⟩ := h
  refine one (m := .ow) a q fun v dd W1 S1 a1 e1 r1 q1 => ?_
  obtain ⟨s, hs, q1⟩ := opt_eq q1
  exact d.nx _ S1 W1 _ ⟨rfl, a1.w, a1.e0, slot_new (o := true) a.ev a.e0 e1 r1 hs⟩ e1.grw q1
theorem par_read {i j : Nat} {oi oj : Bool} (h : tS G W0 R own (.par i j oi oj A B) D σ H) : tPar i j (tCons (tE G W0 R (mdOf oi) A) (tCons (tE G W0 R (mdOf oj) B) tNil)) D σ H := by
  obtain ⟨W, S, ρ, Dd, a, q, d⟩ := h
  refine one (m := mdOf oi) a q fun v d1 W1 S1 a1 e1 r1 q1 => one (m := mdOf oj) a1 q1 fun w d2 W2 S2 a2 e2 r2 q2 => ⟨v, w, rfl, ?_⟩
  obtain ⟨s, hs, q2⟩ := opt_eq q2
  obtain ⟨t, ht, q2⟩ := opt_eq q2
  exact d.nx _ S2 W2 _ ⟨rfl, a2.w, a2.e0, slot_new (slot_new a.ev a.e0 e1 r1 hs) a1.e0 e2 r2 ht⟩ (e1.trans e2).grw q2
theorem par3_read {i j l : Nat} {oi oj ol : Bool} (h : tS G W0 R own (.par3 i j l oi oj ol A B C) D σ H) : tPar3 i j l (tCons (tE G W0 R (mdOf oi) A) (tCons (tE G W0 R (mdOf oj) B) (tCons (tE G W0 R (mdOf ol) C) tNil))) D σ H := by
  obtain ⟨W, S, ρ, Dd, a, q, d⟩ := h
  refine one (m := mdOf oi) a q fun v d1 W1 S1 a1 e1 r1 q1 => one (m := mdOf oj) a1 q1 fun w d2 W2 S2 a2 e2 r2 q2 => one (m := mdOf ol) a2 q2 fun z d3 W3 S3 a3 e3 r3 q3 => ⟨v, w, z, rfl, ?_⟩
  obtain ⟨s, hs, q3⟩ := opt_eq q3
  obtain ⟨t, ht, q3⟩ := opt_eq q3
  obtain ⟨u, hu, q3⟩ := opt_eq q3
  exact d.nx _ S3 W3 _ ⟨rfl, a3.w, a3.e0, slot_new (slot_new (slot_new a.ev a.e0 e1 r1 hs) a1.e0 e2 r2 ht) a2.e0 e3 r3 hu⟩ (e1.trans (e2.trans e3)).grw q3
theorem unp_read {is : List Nat} (h : tS G W0 R own (.unp is E) D σ H) : tE G W0 R .sh E σ H fun v H1 => gP G.K (.many is) v σ H1 D.nx := by
  obtain ⟨W, S, ρ, Dd, a, q, d⟩ := h
  refine one (m := .sh) a q fun v dd W1 S1 a1 e1 r1 q1 => ?_
  obtain ⟨ρ', hb, q1⟩ := opt_eq q1
  exact pat_read (pr := false) a1.w a1.ev (.inl ⟨rfl, r1⟩) (.inl rfl) hb fun σ' W' w' e' ev' _ _ => d.nx _ S1 W' σ' ⟨rfl, w', a1.e0.trans e', ev'⟩ (e1.trans e').grw q1
theorem ite_read (h : tS G W0 R own (.ite E s s2) D σ H) : tIfS (tT G W0 R E) (tS G W0 R own s) (tS G W0 R own s2) D σ H := by
  obtain ⟨W, S, ρ, Dd, a, q, d⟩ := h
  refine ⟨W, S, ρ, a, wp_mono _ _ _ _ _ _ _ (fun _ _ z => z) (fun t S1 q1 => opt_mono (fun c q2 W1 w1 e1 => ?_) q1) q⟩
  cases c with
  | true => rw [if_pos rfl]; exact ⟨W1, S1, ρ, Dd, a.on w1 e1, q2, d.on e1.grw⟩
  | false => rw [if_neg Bool.false_ne_true]; exact ⟨W1, S1, ρ, Dd, a.on w1 e1, q2, d.on e1.grw⟩
theorem whl_read (h : tS G W0 R own (.whl E s) D σ H) : tWhile (tT G W0 R E) (tS G W0 R own s) D σ H := by
  obtain ⟨W, S, ρ, Dd, a, ⟨I, ⟨m0, h0⟩, h1⟩, d⟩ := h
  refine ⟨fun m σ H => ∃ W1 S1 ρ1, At G W0 σ H W1 S1 ρ1 ∧ Grw W W1 ∧ I m ρ1 S1, ⟨m0, W, S, ρ, a, Grw.refl W, h0⟩, ?_⟩
  rintro m σ1 H1 ⟨W1, S1, ρ1, a1, g1, hI⟩
  refine ⟨W1, S1, ρ1, a1, wp_mono _ _ _ _ _ _ _ (fun _ _ z => z) (fun t S2 q1 => opt_mono (fun c q2 W2 w2 e2 => ?_) q1) (h1 m ρ1 S1 hI)⟩
  cases c with
  | true =>
    rw [if_pos rfl]
    exact ⟨fun σ' H' => ∃ m', m' < m ∧ ∃ W3 S3 ρ3, At G W0 σ' H' W3 S3 ρ3 ∧ Grw W W3 ∧ I m' ρ3 S3, fun σ' H' z => z, W2, S2, ρ1, _, a1.on w2 e2, q2, ⟨fun ρ' S' W' σ' a' g' ⟨m', hm, q⟩ => ⟨m', hm, W', S', ρ', a', g1.trans (e2.grw.trans g'), q⟩, d.rt⟩⟩
  | false =>
    rw [if_neg Bool.false_ne_true]
    exact d.nx ρ1 S2 W2 _ (a1.on w2 e2) (g1.trans e2.grw) q2
theorem for_read {pt : Pt} {pr : Bool} (hp : pr = false ∨ ∃ is, pt = .many is) (h : tS G W0 R own (.for_ pt E s) D σ H) : tFor (tI G W0 R pr .sh E) (gP G.K pt) (tS G W0 R own s) D σ H := by
  obtain ⟨W, S, ρ, Dd, a, q, d⟩ := h
  refine ⟨W, S, ρ, a, wp_mono _ _ _ _ _ _ _ (fun _ _ z => z) (fun t S1 q1 => opt_mono (fun ds q2 J W1 w1 e1 src => ?_) q1) q⟩
  obtain ⟨Gd, Y, wk, gd, itm⟩ := src.ex
  refine for_it wk (fun i σ H => ∃ W2 S2 ρ2, At G W0 σ H W2 S2 ρ2 ∧ Grw W1 W2 ∧ wfor pt (fun ρ' S' k => wps s R ρ' S' { Dd with nx := k }) (ds.drop i) ρ2 S2 Dd.nx) ?_ ?_ ?_ ?_
  · exact ⟨W1, S1, ρ, a.on w1 e1, Grw.refl W1, q2⟩
  · rintro i σ2 H2 _ ⟨W2, S2, ρ2, a2, g2, _⟩
    rw [← a2.h]
    exact gd W2 ⟨g2.ad, g2.f, a2.w.sub⟩
  · rintro i x σ2 H2 H' hi ⟨W2, S2, ρ2, a2, g2, hw⟩ y
    have hi' : ds[i]? = some ds[i] := List.getElem?_eq_getElem hi
    rw [← a2.h] at y
    have it := itm W2 i _ x H' ⟨g2.ad, g2.f, a2.w.sub⟩ hi' y
    rw [List.drop_eq_getElem_cons hi] at hw
    obtain ⟨ρ', hb, hw⟩ := opt_eq hw
    refine pat_read a2.w a2.ev it hp hb fun σ' W3 w3 e3 ev3 _ _ => ?_
    exact ⟨W3, S2, ρ', _, ⟨rfl, w3, a2.e0.trans e3, ev3⟩, hw, ⟨fun ρ4 S4 W4 σ4 a4 g4 q4 => ⟨W4, S4, ρ4, a4, g2.trans (e3.grw.trans g4), q4⟩, d.rt⟩⟩
  · rintro σ2 H2 ⟨W2, S2, ρ2, a2, g2, hw⟩
    rw [List.drop_length] at hw
    have z := d.nx ρ2 S2 W2 σ2 (by rw [a2.h]; exact a2) (e1.grw.trans g2) hw
    rw [a2.h] at z
    exact z
theorem fob_read {pt : Pt} (h : tS G W0 R own (.fob pt i E) D σ H) : tFor (tI G W0 R false .bo (.bor i)) (gP G.K pt) (tSeq (tDrop (tE G W0 R .bo E)) tNext) D σ H := by
  obtain ⟨W, S, ρ, Dd, a, q, d⟩ := h
  unfold wps at q
  split at q
  · rename_i ds hi
    refine ⟨W, S, ρ, a, ?_⟩
    unfold wp
    rw [hi]
    show opt (items (.lst ds)) _
    intro J W1 w1 e1 src
    obtain ⟨Gd, Y, wk, gd, itm⟩ := src.ex
    refine for_it wk (fun j σ H => ∃ W2 S2 ρ2, At G W0 σ H W2 S2 ρ2 ∧ Ext W1 W2 ∧ wfor pt (fun ρ' S' k => wp E R ρ' S' fun _ S1 => k ρ' S1) (ds.drop j) ρ2 S2 Dd.nx) ?_ ?_ ?_ ?_
    · exact ⟨W1, S, ρ, a.on w1 e1, Ext.refl W1, q⟩
    · rintro j σ2 H2 _ ⟨W2, S2, ρ2, a2, e2, _⟩
      rw [← a2.h]
      exact gd W2 ⟨e2, a2.w.sub⟩
    · rintro j x σ2 H2 H' hj ⟨W2, S2, ρ2, a2, e2, hw⟩ y
      have hj' : ds[j]? = some ds[j] := List.getElem?_eq_getElem hj
      rw [← a2.h] at y
      have it := itm W2 j _ x H' ⟨e2, a2.w.sub⟩ hj' y
      rw [List.drop_eq_getElem_cons hj] at hw
      obtain ⟨ρ', hb, hw⟩ := opt_eq hw
      refine pat_read a2.w a2.ev it (.inl rfl) hb fun σ' W3 w3 e3 ev3 _ _ => ?_
      exact one (m := .bo) ⟨rfl, w3, a2.e0.trans e3, ev3⟩ hw fun v dd W4 S4 a4 e4 r4 q4 => ⟨W4, S4, ρ', a4, e2.trans (e3.trans e4), q4⟩
    · rintro σ2 H2 ⟨W2, S2, ρ2, a2, e2, hw⟩
      rw [List.drop_length] at hw
      have z := d.nx ρ2 S2 W2 σ2 (by rw [a2.h]; exact a2) (e1.trans e2).grw hw
      rw [a2.h] at z
      exact z
  · exact q.elim
theorem ret_read (h : tS G W0 R own (.ret E) D σ H) : tE G W0 R (mdOf own) E σ H D.rt := by
  obtain ⟨W, S, ρ, Dd, a, q, d⟩ := h
  exact one a q fun v dd W1 S1 a1 e1 r1 q1 => d.rt dd S1 v W1 a1.w a1.e0 (r1.back a.e0) q1
theorem reto_read (h : tS G W0 R own (.reto i) D σ H) : ∃ v, σ[i]? = some (some v) ∧ D.rt v H := by
  obtain ⟨W, S, ρ, Dd, a, q, d⟩ := h
  unfold wps at q
  split at q
  · rename_i ds hi
    obtain ⟨x, h1, l, rfl, ⟨vs, o1, o2⟩, o3, o4, o5⟩ := a.ev.at_ i _ hi
    refine ⟨_, h1, ?_⟩
    rw [← a.h]
    cases own with
    | true => exact d.rt (.lst ds) S (.ref l) W a.w a.e0 ⟨fun ds' e => by cases e; exact ⟨l, vs, rfl, o1, o2, o3, o4, o5⟩, fun n => absurd rfl (n ds)⟩ q
    | false => exact d.rt (.lst ds) S (.ref l) (W.frz l (.lst vs)) (a.w.frz o1 o4 o3) (a.e0.frz o5 o3) (.lst (SqL.of upd_same) (o2.frz o3)) q
  · exact q.elim
theorem retn_read (h : tS G W0 R own .retn D σ H) : D.rt .non H := by
  obtain ⟨W, S, ρ, Dd, a, q, d⟩ := h
  rw [← a.h]
  refine d.rt .non S .non W a.w a.e0 ?_ q
  cases own with
  | true => exact ⟨fun ds e => (nomatch e), fun _ => .non⟩
  | false => exact .non
theorem exp_read (h : tS G W0 R own (.exp E) D σ H) : tE G W0 R .bo E σ H fun _ H1 => D.nx σ H1 := by
  obtain ⟨W, S, ρ, Dd, a, q, d⟩ := h
  exact one (m := .bo) a q fun v dd W1 S1 a1 e1 r1 q1 => d.nx ρ S1 W1 σ a1 e1.grw q1
/-- an own list's slot is read, then the argument -/
theorem app_read (h : tS G W0 R own (.app i E) D σ H) : tDrop (tBM G.K "list" rAppend (fun σ H Q => ∃ v, σ[i]? = some (some v) ∧ Q v H) (tCons (tE G W0 R .sh E) tNil)) D σ H := by
  obtain ⟨W, S, ρ, Dd, a, q, d⟩ := h
  unfold wps at q
  split at q
  · rename_i ds hi
    obtain ⟨x, h1, l, rfl, o⟩ := a.ev.at_ i _ hi
    obtain ⟨vs, o1, o2⟩ := o.at_
    have nl : W.h l ≠ none := by rw [o1]; exact fun z => nomatch z
    refine ⟨.ref l, h1, ?_, ?_⟩
    · rw [← a.h]
      exact .inl ⟨rfl, vs, SqL.of o1⟩
    · refine one (m := .sh) a q fun v dd W1 S1 a1 e1 r1 q1 => ?_
      have o' := o.mono e1
      have o1' := e1.h l _ o1 o.ad
      refine ⟨l, vs, v, rfl, rfl, o1', by rw [o2.length]; exact q1.1, ?_⟩
      exact d.nx _ S1 (W1.own l (.lst (vs ++ [v]))) σ ⟨rfl, a1.w.chg o'.f o'.ad, a1.e0.chg o.new, a1.ev.chgOw hi h1 o' ((o2.mono e1).append (.cons r1 .nil))⟩ ⟨e1.ad, e1.f⟩ q1.2
  · exact q.elim
theorem xtd_read (h : tS G W0 R own (.xtd i E) D σ H) : tDrop (tBM G.K "list" rExtend (fun σ H Q => ∃ v, σ[i]? = some (some v) ∧ Q v H) (tCons (tE G W0 R .ow E) tNil)) D σ H := by
  obtain ⟨W, S, ρ, Dd, a, q, d⟩ := h
  unfold wps at q
  split at q
  · rename_i ds hi
    obtain ⟨x, h1, l, rfl, o⟩ := a.ev.at_ i _ hi
    obtain ⟨vs, o1, o2⟩ := o.at_
    refine ⟨.ref l, h1, ?_, ?_⟩
    · rw [← a.h]
      exact .inl ⟨rfl, vs, SqL.of o1⟩
    · refine one (m := .ow) a q fun v dd W1 S1 a1 e1 r1 q1 => ?_
      cases dd with
      | lst es =>
        obtain ⟨l2, us, rfl, p1, p2, p3, p4, p5⟩ := r1.1 es rfl
        have o' := o.mono e1
        have o1' := e1.h l _ o1 o.ad
        refine ⟨l, l2, vs, us, rfl, rfl, o1', p1, by rw [o2.length, p2.length]; exact q1.1, ?_⟩
        exact d.nx _ S1 (W1.own l (.lst (vs ++ us))) σ ⟨rfl, a1.w.chg o'.f o'.ad, a1.e0.chg o.new, a1.ev.chgOw hi h1 o' ((o2.mono e1).append p2)⟩ ⟨e1.ad, e1.f⟩ q1.2
      | _ => exact q1.elim
  · exact q.elim
theorem Wd.deck {W : Wl} {S : Store} (w : Wd G W S) {k : Nat} {l : Addr} {r : Rs} {n' : Nat} {x y c : Int} (hl : W.ad[k]? = some l) (hk : S[k]? = some r) (h1 : 0 ≤ y) (h2 : y < 2147483579) (h3 : 0 ≤ c) (h4 : c + n' ≤ deckTop) : Wd G (W.own l (.lst [.int x, .int y, .int c])) (S.set k (.deck n')) := by
  have hf := (w.ad_of (List.mem_of_getElem? hl)).1
  refine ⟨fun b o e => ?_, by rw [List.length_set]; exact w.len, w.nd, fun j q e => ?_⟩
  · have ne : b ≠ l := by
      rintro rfl
      have e' : W.f b = some o := e
      rw [hf] at e'
      cases e'
    exact (upd_ne ne).trans (w.sub b o e)
  · by_cases hj : k = j
    · subst hj
      rw [List.getElem?_set_self (List.getElem?_eq_some_iff.mp hk).1] at e
      cases e
      exact ⟨l, hl, hf, x, y, c, upd_same, h1, h2, h3, h4⟩
    · rw [List.getElem?_set_ne hj] at e
      obtain ⟨a, a1, a2, a3⟩ := w.res j q e
      have ne : a ≠ l := by
        rintro rfl
        obtain ⟨q1, q2⟩ := List.getElem?_eq_some_iff.mp hl
        obtain ⟨q3, q4⟩ := List.getElem?_eq_some_iff.mp a1
        have q5 := List.nodup_iff_pairwise_ne.mp w.nd
        rw [List.pairwise_iff_getElem] at q5
        rcases Nat.lt_or_gt_of_ne hj with z | z
        · exact q5 k j q1 q3 z (q2.trans q4.symm)
        · exact q5 j k q3 q1 z (q4.trans q2.symm)
      refine ⟨a, a1, a2, ?_⟩
      cases q with
      | deck m =>
        obtain ⟨x, y, c, q, r⟩ := a3
        exact ⟨x, y, c, (upd_ne ne).trans q, r⟩
      | obj c fs =>
        obtain ⟨C, dx, vs, q1, q2, q3⟩ := a3
        exact ⟨C, dx, vs, q1, (upd_ne ne).trans q2, RepF.grow (W := W) (W' := W.own l _) (List.prefix_refl _) (Same.refl _) q3⟩
      | dct kvs => exact ⟨(upd_ne ne).trans a3.1, a3.2⟩
theorem Ext.chgR {W0 W : Wl} (e : Ext W0 W) {l : Addr} {o : HO} (h0 : l ∈ W.ad) : Ext W0 (W.own l o) := by
  refine ⟨e.ad, e.f, fun a x q n => ?_, e.fr, e.nw, fun a q => (e.td a q).imp (fun z => ?_) id⟩
  · have ne : a ≠ l := by
      rintro rfl
      rcases e.nw a h0 with z | z
      · exact n z
      · rw [z] at q; cases q
    exact (upd_ne ne).trans (e.h a x q n)
  · show upd W.h l o a ≠ none
    by_cases h : a = l
    · subst h
      rw [upd_same]
      exact fun z => nomatch z
    · rw [upd_ne h]
      exact z
theorem EvOk.chgR {K : PySem.W.Frag} {H0 : Hp} {W : Wl} {σ : L2.St} {ρ : Ev} (h : EvOk K H0 W σ ρ) {l : Addr} {o : HO} (hl : l ∈ W.ad) : EvOk K H0 (W.own l o) σ ρ := by
  refine ⟨h.len, fun i s q => ?_, h.ne⟩
  obtain ⟨x, e1, e2⟩ := h.at_ i s q
  refine ⟨x, e1, ?_⟩
  cases s with
  | no => trivial
  | sh d =>
    obtain ⟨v, rfl, r⟩ := e2
    exact ⟨v, rfl, r.own⟩
  | ow es =>
    obtain ⟨l', rfl, ⟨us, o1, o2⟩, o3, o4, o5⟩ := e2
    have ne : l' ≠ l := by
      rintro rfl
      exact o4 hl
    exact ⟨l', rfl, ⟨us, (upd_ne ne).trans o1, o2.own⟩, o3, o4, o5⟩
theorem hst_read {i j : Nat} (h : tS G W0 R own (.hst i j E) D σ H) : tE G W0 R .sh E σ H fun v H1 => gSub (fun σ H Q => ∃ v, σ[i]? = some (some v) ∧ Q v H) (tC (.int (j : Int))) rSetL v σ H1 D.nx := by
  obtain ⟨W, S, ρ, Dd, a, q, d⟩ := h
  unfold wps at q
  split at q
  · rename_i k hi
    obtain ⟨x, h1, v, rfl, o⟩ := a.ev.at_ i _ hi
    cases o with
    | hdl ha =>
      rename_i l
      refine one (m := .sh) a q fun v dd W1 S1 a1 e1 r1 q1 => ?_
      have r1' : Rep G.K W1 v dd := r1
      split at q1
      · rename_i n es
        obtain ⟨l', b1, b2, x', y', c', b3, b4, b5, b6, b7⟩ := a1.w.res k _ es
        have e2 : l' = l := by
          obtain ⟨t, ht⟩ := e1.ad
          rw [← ht, List.getElem?_append_left (List.getElem?_eq_some_iff.mp ha).1, ha] at b1
          exact (Option.some.inj b1).symm
        subst e2
        have hm := List.mem_of_getElem? b1
        refine ⟨.ref l', h1, l', [.int x', .int y', .int c'], j, j, rfl, rfl, b3, ?_⟩
        unfold deckWr at q1
        split at q1
        · rename_i z
          cases r1'
          exact ⟨rfl, d.nx ρ _ (W1.own l' (.lst [.int z, .int y', .int c'])) σ ⟨rfl, a1.w.deck b1 es b4 b5 b6 b7, a1.e0.chgR hm, a1.ev.chgR hm⟩ ⟨e1.ad, e1.f⟩ q1⟩
        · rename_i z
          obtain ⟨n', p1, p2, q1⟩ := q1
          cases r1'
          exact ⟨rfl, d.nx ρ _ (W1.own l' (.lst [.int x', .int y', .int z])) σ ⟨rfl, a1.w.deck b1 es b4 b5 p1 p2, a1.e0.chgR hm, a1.ev.chgR hm⟩ ⟨e1.ad, e1.f⟩ q1⟩
        · exact q1.elim
      · exact q1.elim
  · exact q.elim
theorem sti_read (h : tS G W0 R own (.sti i A E) D σ H) : tE G W0 R .sh E σ H fun v H1 => gSub (fun σ H Q => ∃ v, σ[i]? = some (some v) ∧ Q v H) (tE G W0 R .bo A) rSetL v σ H1 D.nx := by
  obtain ⟨W, S, ρ, Dd, a, q, d⟩ := h
  unfold wps at q
  split at q
  · rename_i ds hi
    obtain ⟨x, h1, l, rfl, o⟩ := a.ev.at_ i _ hi
    obtain ⟨vs, o1, o2⟩ := o.at_
    refine one (m := .sh) a q fun v dd W1 S1 a1 e1 r1 q1 => ⟨.ref l, h1, one (m := .bo) a1 q1 fun u du W2 S2 a2 e2 r2 q2 => ?_⟩
    cases du with
    | int j =>
      cases RepB.int r2
      obtain ⟨n, hn, q2⟩ := opt_eq q2
      have e12 := e1.trans e2
      have o' := o.mono e12
      have r1' : Rep G.K W1 v dd := r1
      exact ⟨l, vs, j, n, rfl, rfl, e12.h l _ o1 o.ad, by rw [o2.length]; exact hn, d.nx _ S2 (W2.own l (.lst (vs.set n v))) σ ⟨rfl, a2.w.chg o'.f o'.ad, a2.e0.chg o.new, a2.ev.chgOw hi h1 o' ((o2.mono e12).set (r1'.mono e2) n)⟩ ⟨e12.ad, e12.f⟩ q2⟩
    | _ => exact q2.elim
  · exact q.elim
theorem last_rep {K : PySem.W.Frag} {W : Wl} {ds : List Dt} {vs : List V} {d : Dt} (r : RepL K W vs ds) (h : ds.getLast? = some d) : ∃ y, vs[vs.length - 1]? = some y ∧ Rep K W y d ∧ RepL K W vs.dropLast ds.dropLast := by
  rw [List.getLast?_eq_getElem?] at h
  obtain ⟨y, h1, h2⟩ := r.get h
  refine ⟨y, by rw [r.length]; exact h1, h2, ?_⟩
  rw [List.dropLast_eq_take, List.dropLast_eq_take, r.length]
  exact r.take _
theorem pops_read (h : tS G W0 R own (.pops i) D σ H) : tDrop (tBM0 G.K "list" rPop (fun σ H Q => ∃ v, σ[i]? = some (some v) ∧ Q v H)) D σ H := by
  obtain ⟨W, S, ρ, Dd, a, q, d⟩ := h
  unfold wps at q
  split at q
  · rename_i ds hi
    obtain ⟨dl, hd, q⟩ := opt_eq q
    obtain ⟨x, h1, l, rfl, o⟩ := a.ev.at_ i _ hi
    obtain ⟨vs, o1, o2⟩ := o.at_
    obtain ⟨y, y1, y2, y3⟩ := last_rep o2 hd
    have at2 : At G W0 σ W.h W S ρ := by
      have := a.h
      subst this
      exact a
    refine ⟨.ref l, h1, .inl ⟨rfl, _, SqL.of (by rw [← a.h]; exact o1)⟩, l, vs, y, rfl, rfl, by rw [← a.h]; exact o1, y1, ?_⟩
    rw [← a.h]
    exact d.nx _ S (W.own l (.lst vs.dropLast)) σ ⟨rfl, at2.w.chg o.f o.ad, at2.e0.chg o.new, at2.ev.chgOw hi h1 o y3⟩ ⟨List.prefix_refl _, Same.refl _⟩ q
  · exact q.elim
theorem popa_read {j : Nat} (h : tS G W0 R own (.popa j i) D σ H) : tAsg (tBM0 G.K "list" rPop (fun σ H Q => ∃ v, σ[i]? = some (some v) ∧ Q v H)) (gName j) D σ H := by
  obtain ⟨W, S, ρ, Dd, a, q, d⟩ := h
  unfold wps at q
  split at q
  · rename_i ds hi
    obtain ⟨dl, hd, q⟩ := opt_eq q
    obtain ⟨x, h1, l, rfl, o⟩ := a.ev.at_ i _ hi
    obtain ⟨vs, o1, o2⟩ := o.at_
    obtain ⟨y, y1, y2, y3⟩ := last_rep o2 hd
    have at2 : At G W0 σ W.h W S ρ := by
      have := a.h
      subst this
      exact a
    refine ⟨.ref l, h1, .inl ⟨rfl, _, SqL.of (by rw [← a.h]; exact o1)⟩, l, vs, y, rfl, rfl, by rw [← a.h]; exact o1, y1, ?_⟩
    rw [← a.h]
    exact d.nx _ S (W.own l (.lst vs.dropLast)) _ ⟨rfl, at2.w.chg o.f o.ad, at2.e0.chg o.new, (at2.ev.chgOw hi h1 o y3).setSh j y2.own⟩ ⟨List.prefix_refl _, Same.refl _⟩ q
  · exact q.elim
theorem upop_read {is : List Nat} {f : Str} {F : Fn} (h : tS G W0 R own (.upop is f F E i) D σ H) : tAsg (tCall (spF G F) [] (EXr G W0 R) (tLp G W0 R i E)) (gP G.K (.many is)) D σ H := by
  obtain ⟨W, S, ρ, Dd, a, q, d⟩ := h
  refine ⟨W, S, ρ, a, wp_mono _ _ _ _ _ _ _ (fun _ _ z => z) (fun r S1 q1 => ?_) q⟩
  cases r with
  | tup ds =>
    split at q1
    · rename_i p ps e1 e2
      cases e1
      try rw [e2]
      intro zs W' p2 f2 a2 r2
      rw [List.append_nil]
      refine call_read (m := .sh) (fun z => nomatch z) a2 (Ext.refl W') r2 (F.mono _ _ _ _ _ _ (fun dd S2 q2 z W3 w3 e3 r3 => ?_) (fun _ _ z => z) q1)
      obtain ⟨ρ', hb, q2⟩ := opt_eq q2
      exact pat_read (pr := false) w3 (a2.ev.mono e3) (.inl ⟨rfl, r3⟩) (.inl rfl) hb fun σ' W4 w4 e4 ev4 _ _ => d.nx _ S2 W4 σ' ⟨rfl, w4, a2.e0.trans (e3.trans e4), ev4⟩ ⟨p2.trans (e3.trans e4).ad, f2.trans (e3.trans e4).f⟩ q2
    · exact q1.elim
  | _ => exact q1.elim
end
end Vr

/-! The checker of statements, that it is sound; defs. -/
namespace Vr
open PySem PySem.Spec PyProof.Rows L2

def isComp : Expr → Bool
  | .ListComp .. => true
  | .SetComp .. => true
  | .DictComp .. => true
  | _ => false
theorem sw_plain {e : Expr} {t : Option Expr} {l : Nat} {env : Env} (h : isComp e = false) : swapsWith e t l env = pure false := by
  cases e <;> first | rfl | cases h
theorem sw_off {elt : Expr} {gs : List Comprehension} {scope : Scope} {pos py : Pos} {y : Str} {l : Nat} {env : Env} (hl : (py.line == pos.line) = false) : swapsWith (.ListComp elt gs scope pos) (some (.Name y py)) l env = pure false := by
  unfold swapsWith
  simp only [Expr.pos, hl, Bool.and_false, Bool.false_and]
theorem sw_tup {e tg : Expr} {l : Nat} {env : Env} (h : isComp e = false) : swapsWithSole [tg] e l env = pure false := sw_plain h
def nonLoc (sc : Scope) : Expr → Bool
  | .Name x _ => !decide (sc.names.lookup x = some .local)
  | _ => true
def swN (sc : Scope) (ts vs : List Expr) : Bool := (ts.length != 2 && ts.length != 3) || vs.all (foldedForSure 8) || ts.any (nonLoc sc)
theorem filter_lt {α β : Type} (f : α → Option β) : ∀ xs : List α, (xs.any fun x => (f x).isNone) = true → (xs.filterMap f).length < xs.length
  | [], h => by simp at h
  | x :: xs, h => by
    rw [List.any_cons, Bool.or_eq_true] at h
    rw [List.filterMap_cons]
    have le : (xs.filterMap f).length ≤ xs.length := List.length_filterMap_le f xs
    cases e : f x with
    | none => simp only [List.length_cons]; omega
    | some y =>
      rw [e] at h
      have := filter_lt f xs (by simpa using h)
      simp only [List.length_cons]
      omega
theorem swaps_none {ts vs : List Expr} {k k2 : Nat} {p p2 : Pos} {env : Env} (h : swN env.scope ts vs = true) : swappedStores [.Tuple ts k p] (.Tuple vs k2 p2) env = pure none := by
  unfold swappedStores
  unfold swN at h
  rw [Bool.or_eq_true, Bool.or_eq_true] at h
  rcases h with (h | h) | h
  · have h' : (!(ts.length == 2 || ts.length == 3)) = true := by
      simp only [bne, Bool.and_eq_true, Bool.not_eq_true'] at h
      rw [h.1, h.2]
      rfl
    simp only [h', Bool.true_or]
    rfl
  · simp only [h]
    split
    · rfl
    · split
      · rfl
      · split <;> rfl
  · dsimp only
    split
    · rfl
    · split
      · rfl
      · split
        · rfl
        · rename_i z
          exfalso
          apply z
          rw [Bool.or_eq_true]
          refine .inl ?_
          rw [bne_iff_ne]
          refine Nat.ne_of_lt (filter_lt _ _ ?_)
          rw [List.any_eq_true] at h ⊢
          obtain ⟨e, he, hn⟩ := h
          refine ⟨e, he, ?_⟩
          cases e with
          | Name x q =>
            have hn' : decide (env.scope.names.lookup x = some .local) = false := by simpa [nonLoc] using hn
            have h1 : (env.kindOf x == some NameKind.local) = false := by
              rw [beq_eq_false_iff_ne]
              exact of_decide_eq_false hn'
            simp only [h1, Bool.false_and]
            rfl
          | _ => rfl
theorem swaps_none' {ts : List Expr} {e : Expr} {k : Nat} {p : Pos} {env : Env} (h : isTup e = false) : swappedStores [.Tuple ts k p] e env = pure none := by
  cases e <;> first | rfl | cases h
theorem star_f {e : Expr} (h : noStar e = true) : (match e with | .Starred .. => true | _ => false) = false := by
  cases e <;> first | rfl | cases h
theorem dups2 {x y : Str} (h : x ≠ y) : [x, y].eraseDups = [x, y] := by
  have e : (y == x) = false := by simpa using fun z : y = x => h z.symm
  simp [List.eraseDups_cons, e, h, Ne.symm h]
theorem dups3 {x y z : Str} (h : x ≠ y) (h2 : x ≠ z) (h3 : y ≠ z) : [x, y, z].eraseDups = [x, y, z] := by
  simp [List.eraseDups_cons, h, h2, h3, Ne.symm h, Ne.symm h2, Ne.symm h3]
theorem swaps_two {env : Env} {x y : Str} {px py p p2 : Pos} {a b : Expr} {k k2 : Nat} (hk : env.scope.kind = .function) (hx : env.scope.names.lookup x = some .local) (hy : env.scope.names.lookup y = some .local) (hl : (py.line == px.line) = true) (hxy : x ≠ y) (na : noStar a = true) (nb : noStar b = true)
    (hf : [a, b].all (foldedForSure 8) = false) (hc : [a, b].all (constantsAlone 8) = false) : swappedStores [.Tuple [.Name x px, .Name y py] k p] (.Tuple [a, b] k2 p2) env = pure (some [x, y]) := by
  have kx : env.kindOf x = some .local := hx
  have ky : env.kindOf y = some .local := hy
  have hb : env.blockKind = .function := by unfold Env.blockKind; rw [hk]; rfl
  have e1 : (some NameKind.local == some NameKind.local) = true := by decide
  unfold swappedStores
  simp only [hb, hf, hc, List.filterMap_cons, List.filterMap_nil, List.head?_cons, Option.map_some, Option.getD_some, Expr.pos, kx, ky, hl, List.any_cons, List.any_nil, List.length_cons, List.length_nil, e1, beq_self_eq_true, Bool.and_true, if_true, dups2 hxy]
  rw [if_neg (by decide), if_neg, if_neg (by decide), if_neg (by decide), if_neg (by decide)]
  have q : ∀ (u v : Bool), u = false → v = false → ¬ ((u || (v || false)) = true) := by decide
  refine q _ _ ?_ ?_
  · cases a <;> first | rfl | cases na
  · cases b <;> first | rfl | cases nb
theorem swaps_three {env : Env} {x y z : Str} {px py pz p p2 : Pos} {a b c : Expr} {k k2 : Nat} (hk : env.scope.kind = .function) (hx : env.scope.names.lookup x = some .local) (hy : env.scope.names.lookup y = some .local) (hz : env.scope.names.lookup z = some .local) (hl : (py.line == px.line) = true) (hl2 : (pz.line == px.line) = true) (hxy : x ≠ y) (hxz : x ≠ z) (hyz : y ≠ z) (na : noStar a = true) (nb : noStar b = true) (nc : noStar c = true)
    (hf : [a, b, c].all (foldedForSure 8) = false) (hc : [a, b, c].all (constantsAlone 8) = false) : swappedStores [.Tuple [.Name x px, .Name y py, .Name z pz] k p] (.Tuple [a, b, c] k2 p2) env = pure (some [x, y, z]) := by
  have kx : env.kindOf x = some .local := hx
  have ky : env.kindOf y = some .local := hy
  have kz : env.kindOf z = some .local := hz
  have hb : env.blockKind = .function := by unfold Env.blockKind; rw [hk]; rfl
  have e1 : (some NameKind.local == some NameKind.local) = true := by decide
  unfold swappedStores
  simp only [hb, hf, hc, List.filterMap_cons, List.filterMap_nil, List.head?_cons, Option.map_some, Option.getD_some, Expr.pos, kx, ky, kz, hl, hl2, List.any_cons, List.any_nil, List.length_cons, List.length_nil, e1, beq_self_eq_true, Bool.and_true, if_true, dups3 hxy hxz hyz]
  rw [if_neg (by decide), if_neg, if_neg (by decide), if_neg (by decide), if_neg (by decide)]
  have q : ∀ (u v w : Bool), u = false → v = false → w = false → ¬ ((u || (v || (w || false))) = true) := by decide
  refine q _ _ _ ?_ ?_ ?_
  · cases a <;> first | rfl | cases na
  · cases b <;> first | rfl | cases nb
  · cases c <;> first | rfl | cases nc
end Vr

/-! Statements over objects: fields stored, rows of targets. -/
namespace Vr
open PySem PySem.Spec PyProof.Rows L2

section
variable {k : Nat} {N : List Str} {sc : Scope} {W0 : Wl} {R : XR} {X : Cx} {own : Bool} {e o : Expr} {E O A B : Ex} {pos p : Pos} {D : Ends} {σ : L2.St} {H : Hp}
theorem fset_read {cn x : Str} (ff : FldFact (sur X) cn x) (h : tS (sur X) W0 R own (.fset cn x O E) D σ H) : sFld X.K (tE (sur X) W0 R .bo O) (tE (sur X) W0 R .sh E) x D σ H := by
  obtain ⟨C, g1, g2, g3⟩ := ff
  obtain ⟨W, S, ρ, Dd, a, q, d⟩ := h
  refine one (m := .sh) a q fun v dd W1 S1 a1 e1 r1 q1 => one (m := .bo) a1 q1 fun z d2 W2 S2 a2 e2 r2 q2 => ?_
  cases d2 with
  | hdl j =>
    dsimp only at q2
    split at q2
    · rename_i c' fs hk
      obtain ⟨rfl, hl, q2⟩ := q2
      obtain ⟨p, C', dx, vs, rfl, p1, p2, p3, p4, p5⟩ := a2.w.ob hk (RepB.hdl r2)
      obtain rfl := cls_eq (mg := (sur X).mg) g1 p2
      have r1' : Rep X.K W2 v dd := Rep.mono e2 r1
      refine ⟨p, C', dx, vs, rfl, p3, g2, g3, by rw [p4.len]; omega, ?_⟩
      exact d.nx ρ _ (W2.own p (.ins C' dx (putF x v vs))) σ ⟨rfl, a2.w.fld hk p1 g1 p4 r1', a2.e0.chgR (List.mem_of_getElem? p1), a2.ev.chgR (List.mem_of_getElem? p1)⟩ ⟨(e1.trans e2).ad, (e1.trans e2).f⟩ q2
    · exact q2.elim
  | _ => exact q2.elim
/-- o.x as a target -/
def gFld (K : PySem.W.Frag) (ta : TE) (f : Str) : TG := fun v σ H Q => ta σ H fun x H1 => ∃ a C dx fs, x = .ref a ∧ H1 a = some (.ins C dx fs) ∧ Cls K C ∧ NoAttr K C f ∧ fs.length < 1000 ∧ Q σ (upd H1 a (.ins C dx (putF f v fs)))
theorem pg_fld {f : Str} {ta : TE} (ho : PE X o ta) : PG X (.Attribute o f pos) (gFld X.K ta f) := by
  refine ⟨fun pins s σ H v u Q I r h => ?_⟩
  rw [assign_Attribute]
  refine wpAny_bind (wpAny_holding (thn (ho.run pins s σ H _ I h) fun ov s1 ⟨x, H1, I1, r1, a, C, dx, fs, ex, ea, c, n, l, q1⟩ => ?_))
  subst ex
  obtain rfl : ov = Value.ref a := r1
  refine wpAny_bind (wpAny_standAt (wpAny_bind (wpAny_holding (setattr_ok I1 ea c n l r fun s3 I3 => ?_))))
  exact wpAny_release ⟨σ, _, I3, q1⟩
def gTgs (K : PySem.W.Frag) : List Tg → TGs
  | [] => gNil
  | .nm i :: ts => gCons (gName i) (gTgs K ts)
  | .fd _ i x :: ts => gCons (gFld K (fun σ H Q => ∃ v, σ[i]? = some (some v) ∧ Q v H) x) (gTgs K ts)
/-- the targets, by the text -/
def tgsC (N : List Str) (sc : Scope) : List Tg → List Expr → Bool
  | [], [] => true
  | .nm i :: ts, .Name x _ :: es => decide (N[i]? = some x) && locB sc x && tgsC N sc ts es
  | .fd _ i x :: ts, .Attribute (.Name y _) z _ :: es => decide (N[i]? = some y) && visB sc y && nmB y && decide (x = z) && tgsC N sc ts es
  | _, _ => false
def TgF (G : Sur) : List Tg → Prop
  | [] => True
  | .nm _ :: ts => TgF G ts
  | .fd c _ x :: ts => FldFact G c x ∧ TgF G ts
theorem tgs_ok (c : Cxf k N sc W0 R X) : ∀ (ts : List Tg) (es : List Expr), tgsC N sc ts es = true → PGs X es (gTgs X.K ts) ∧ (assignEach es X.env).length = ts.length ∧ (assignEach es X.env).findIdx? (·.1) = none
  | [], [], _ => ⟨pgs_nil, rfl, rfl⟩
  | .nm i :: ts, .Name x p :: es, h => by
    unfold tgsC at h
    simp only [Bool.and_eq_true] at h
    obtain ⟨⟨h1, h2⟩, h3⟩ := h
    obtain ⟨i1, i2, i3⟩ := tgs_ok c ts es h3
    refine ⟨pgs_cons (pg_name (by rw [c.n]; exact c.nd) (by rw [c.n]; exact of_decide_eq_true h1) (by rw [c.sc]; exact loc_of h2) (.inl (c.fn x))) i1 rfl, ?_, ?_⟩
    · show _ + 1 = _ + 1
      rw [← i2]
    · show List.findIdx? _ ((false, _) :: _) = none
      rw [List.findIdx?_cons, i3]
      rfl
  | .fd _ i x :: ts, .Attribute (.Name y p) z q :: es, h => by
    unfold tgsC at h
    simp only [Bool.and_eq_true] at h
    obtain ⟨⟨⟨⟨h1, h2⟩, h3⟩, h4⟩, h5⟩ := h
    obtain ⟨i1, i2, i3⟩ := tgs_ok c ts es h5
    obtain rfl := of_decide_eq_true h4
    refine ⟨pgs_cons (pg_fld (pe_var (by rw [c.n]; exact of_decide_eq_true h1) (vis_of c.toCxt h2) (nm_of h3).1 (nm_of h3).2)) i1 rfl, ?_, ?_⟩
    · show _ + 1 = _ + 1
      rw [← i2]
    · show List.findIdx? _ ((false, _) :: _) = none
      rw [List.findIdx?_cons, i3]
      rfl
  | [], _ :: _, h => by cases h
  | .nm _ :: _, [], h => by cases h
  | .fd _ _ _ :: _, [], h => by cases h
  | .nm i :: ts, e :: es, h => by
    cases e with
    | Name x p =>
      unfold tgsC at h
      simp only [Bool.and_eq_true] at h
      obtain ⟨⟨h1, h2⟩, h3⟩ := h
      obtain ⟨i1, i2, i3⟩ := tgs_ok c ts es h3
      refine ⟨pgs_cons (pg_name (by rw [c.n]; exact c.nd) (by rw [c.n]; exact of_decide_eq_true h1) (by rw [c.sc]; exact loc_of h2) (.inl (c.fn x))) i1 rfl, ?_, ?_⟩
      · show _ + 1 = _ + 1
        rw [← i2]
      · show List.findIdx? _ ((false, _) :: _) = none
        rw [List.findIdx?_cons, i3]
        rfl
    | _ => cases h
  | .fd _ i x :: ts, e :: es, h => by
    cases e with
    | Attribute o z q =>
      cases o with
      | Name y p =>
        unfold tgsC at h
        simp only [Bool.and_eq_true] at h
        obtain ⟨⟨⟨⟨h1, h2⟩, h3⟩, h4⟩, h5⟩ := h
        obtain ⟨i1, i2, i3⟩ := tgs_ok c ts es h5
        obtain rfl := of_decide_eq_true h4
        refine ⟨pgs_cons (pg_fld (pe_var (by rw [c.n]; exact of_decide_eq_true h1) (vis_of c.toCxt h2) (nm_of h3).1 (nm_of h3).2)) i1 rfl, ?_, ?_⟩
        · show _ + 1 = _ + 1
          rw [← i2]
        · show List.findIdx? _ ((false, _) :: _) = none
          rw [List.findIdx?_cons, i3]
          rfl
      | _ => cases h
    | _ => cases h
theorem tgs_read {G : Sur} {Dd : Ed} (hG : G = sur X) : ∀ (ts : List Tg) (ds : List Dt) (zs : List V) (σ : L2.St) (W : Wl) (S : Store) (ρ : Ev) (Q : L2.St → Hp → Prop), TgF (sur X) ts → At (sur X) W0 σ W.h W S ρ → RepL X.K W zs ds → wtg ts ds ρ S Dd.nx → (∀ ρ' S' W' σ', At (sur X) W0 σ' W'.h W' S' ρ' → Grw W W' → Dd.nx ρ' S' → Q σ' W'.h) → gTgs X.K ts zs σ W.h Q
  | [], [], zs, σ, W, S, ρ, Q, _, a, r, q, h => by
    cases r
    exact ⟨rfl, h ρ S W σ a (Grw.refl W) q⟩
  | .nm i :: ts, d :: ds, _, σ, W, S, ρ, Q, f, a, .cons (v := z) (vs := zs) r1 r2, q, h => by
    refine ⟨z, zs, rfl, ?_⟩
    exact tgs_read hG ts ds zs _ W S _ Q f ⟨rfl, a.w, a.e0, a.ev.setSh i r1⟩ r2 q h
  | .fd cn i x :: ts, d :: ds, _, σ, W, S, ρ, Q, f, a, .cons (v := z) (vs := zs) r1 r2, q, h => by
    obtain ⟨⟨C, g1, g2, g3⟩, f⟩ := f
    refine ⟨z, zs, rfl, ?_⟩
    unfold wtg at q
    split at q
    · rename_i j hi
      obtain ⟨y, s1, v, rfl, s2⟩ := a.ev.at_ i _ hi
      split at q
      · rename_i c' fs hk
        obtain ⟨rfl, hl, q⟩ := q
        obtain ⟨p, C', dx, vs, rfl, p1, p2, p3, p4, p5⟩ := a.w.ob hk s2
        obtain rfl := cls_eq (mg := (sur X).mg) g1 p2
        refine ⟨.ref p, s1, p, C', dx, vs, rfl, p3, g2, g3, by rw [p4.len]; omega, ?_⟩
        have hm := List.mem_of_getElem? p1
        exact tgs_read hG ts ds zs σ (W.own p (.ins C' dx (putF x z vs))) _ ρ Q f ⟨rfl, a.w.fld hk p1 g1 p4 r1, a.e0.chgR hm, a.ev.chgR hm⟩ (RepL.grow (W := W) (W' := W.own p _) (List.prefix_refl _) (Same.refl _) r2) q fun ρ' S' W' σ' a' g q' => h ρ' S' W' σ' a' ⟨g.ad, g.f⟩ q'
      · exact q.elim
    · exact q.elim
  | [], _ :: _, _, _, _, _, _, _, _, _, _, q, _ => q.elim
  | .nm _ :: _, [], _, _, _, _, _, _, _, _, _, q, _ => q.elim
  | .fd _ _ _ :: _, [], _, _, _, _, _, _, _, _, _, q, _ => q.elim
theorem utg_read {ts : List Tg} (ff : TgF (sur X) ts) (h : tS (sur X) W0 R own (.utg ts E) D σ H) : tE (sur X) W0 R .sh E σ H fun v H1 => gTup X.K ts.length (gTgs X.K ts) v σ H1 D.nx := by
  obtain ⟨W, S, ρ, Dd, a, q, d⟩ := h
  refine one (m := .sh) a q fun v dd W1 S1 a1 e1 r1 q1 => ?_
  cases dd with
  | tup ds =>
    have r1 : Rep X.K W1 v (.tup ds) := r1
    cases r1 with
    | tup hq hr =>
      refine ⟨_, _, rfl, (hq.same a1.w.sub).sq, by rw [hr.length]; exact q1.1, ?_⟩
      exact tgs_read (Dd := Dd) rfl ts ds _ σ W1 S1 ρ D.nx ff a1 hr q1.2 fun ρ' S' W' σ' a' g q' => d.nx ρ' S' W' σ' a' (e1.grw.trans g) q'
  | _ => exact q1.elim
theorem seq_ix {z : Int} {n : Nat} (h0 : 0 ≤ z) (h1 : z < n) : seqIndex? z n = some z.toNat := by
  unfold seqIndex?
  simp [h0, h1]
  try omega
theorem RepL.erase {K : PySem.W.Frag} {W : Wl} : ∀ {ds : List Dt} {vs : List V} (n : Nat), RepL K W vs ds → RepL K W (vs.eraseIdx n) (ds.eraseIdx n)
  | _, _, _, .nil => .nil
  | _, _, 0, .cons _ b => b
  | _, _, n + 1, .cons a b => .cons a (RepL.erase n b)
/-- a resource changes -/
theorem Wd.setR {G : Sur} {W : Wl} {S : Store} (w : Wd G W S) {k : Nat} {a : Addr} {o : HO} {r : Rs} (hk : k < S.length) (ha : W.ad[k]? = some a) (ok : RsOk G (W.own a o) a r) : Wd G (W.own a o) (S.set k r) := by
  have hm : a ∈ W.ad := List.mem_of_getElem? ha
  obtain ⟨hfa, _⟩ := w.ad_of hm
  refine ⟨fun b u e => ?_, by rw [List.length_set]; exact w.len, w.nd, fun j r' e => ?_⟩
  · have ne : b ≠ a := by
      rintro rfl
      have e : W.f b = some u := e
      rw [hfa] at e
      cases e
    show upd W.h a _ b = some u
    rw [upd_ne ne]
    exact w.sub b u e
  · by_cases hj : k = j
    · subst hj
      rw [List.getElem?_set_self hk] at e
      cases e
      exact ⟨a, ha, hfa, ok⟩
    · rw [List.getElem?_set_ne hj] at e
      obtain ⟨b, h1, h2, h3⟩ := w.res j r' e
      have ne : b ≠ a := by
        rintro rfl
        have l1 := (List.getElem?_eq_some_iff.mp ha)
        have l2 := (List.getElem?_eq_some_iff.mp h1)
        obtain ⟨p1, p2⟩ := l1
        obtain ⟨p3, p4⟩ := l2
        exact hj (nd_inj w.nd p1 p3 (p2.trans p4.symm))
      refine ⟨b, h1, h2, ?_⟩
      cases r' with
      | deck n =>
        obtain ⟨x', y', z', q1, q2⟩ := h3
        exact ⟨x', y', z', (upd_ne ne).trans q1, q2⟩
      | obj c' fs' =>
        obtain ⟨C', dx', vs', q1, q2, q3⟩ := h3
        exact ⟨C', dx', vs', q1, (upd_ne ne).trans q2, q3.own⟩
      | dct kvs => exact ⟨(upd_ne ne).trans h3.1, h3.2⟩
theorem putS_mem {kvs : List (Str × Str)} {s t : Str} {p : Str × Str} (h : p ∈ putS kvs s t) : (p ∈ kvs) ∨ (p.1 = s ∧ p.2 = t) := by
  unfold putS at h
  split at h
  · obtain ⟨q, hq, e⟩ := List.mem_map.mp h
    by_cases c : q.1 = s
    · rw [if_pos c] at e
      subst e
      exact .inr ⟨c, rfl⟩
    · rw [if_neg c] at e
      subst e
      exact .inl hq
  · rcases List.mem_append.mp h with h | h
    · exact .inl h
    · rw [List.mem_singleton] at h
      subst h
      exact .inr ⟨rfl, rfl⟩
theorem dpop_read {i kx l : Nat} {G : Sur} (h : tS G W0 R own (.dpop i kx l E) D σ H) : sDPut (fun σ H Q => ∃ v, σ[i]? = some (some v) ∧ Q v H) (fun σ H Q => ∃ v, σ[kx]? = some (some v) ∧ Q v H) (tBM G.K "list" rPopAt (fun σ H Q => ∃ v, σ[l]? = some (some v) ∧ Q v H) (tCons (tE G W0 R .bo E) tNil)) D σ H := by
  obtain ⟨W, S, ρ, Dd, a, q, d⟩ := h
  unfold wps at q
  split at q
  · rename_i ds hl
    obtain ⟨x, h1, p, rfl, o⟩ := a.ev.at_ l _ hl
    obtain ⟨vs, o1, o2⟩ := o.at_
    refine ⟨.ref p, h1, ?_, ?_⟩
    · rw [← a.h]
      exact .inl ⟨rfl, vs, SqL.of o1⟩
    · refine one (m := .bo) a q fun z dz W1 S1 a1 e1 r1 q1 => ?_
      cases dz with
      | int z =>
        obtain rfl := RepB.int r1
        obtain ⟨z0, z1, z2, q1⟩ := q1
        obtain ⟨dd, hd, q1⟩ := opt_eq q1
        have o' := o.mono e1
        have o1' := e1.h p _ o1 o.ad
        have o2' := o2.mono e1
        obtain ⟨y, hy, ry⟩ := o2'.get hd
        have hlen : vs.length = ds.length := o2.length
        refine ⟨p, vs, z, z.toNat, y, rfl, rfl, o1', by omega, by omega, seq_ix z0 (by rw [hlen]; exact z1), hy, ?_⟩
        split at q1
        · rename_i v s t f1 f2
          obtain ⟨⟨k, kvs⟩, f3, q6⟩ := opt_eq q1
          obtain ⟨rfl, hk⟩ := dctAt_eq f3
          have w2 : Wd G (W1.own p (.lst (vs.eraseIdx z.toNat))) S1 := a1.w.chg o'.f o'.ad
          have ev2 : EvOk G.K W0.h (W1.own p (.lst (vs.eraseIdx z.toNat))) σ (ρ.set l (.ow (ds.eraseIdx z.toNat))) := a1.ev.chgOw hl h1 o' (o2'.erase _)
          obtain ⟨xv, g1, uv, rfl, g2⟩ := a.ev.at_ i _ f1
          obtain ⟨xs, g3, us, rfl, g4⟩ := a.ev.at_ kx _ f2
          have g2' : Rep G.K (W1.own p (.lst (vs.eraseIdx z.toNat))) uv (.hdl k) := (Rep.mono e1 g2).ownO
          obtain ⟨ad, rfl, p1, p2, p3, p4⟩ := w2.dt hk g2'
          cases g4 with
          | str _ hs =>
            cases ry with
            | str _ ht =>
              refine ⟨.ref ad, g1, .str s, g3, ad, _, rfl, DPut.k (k := .inr s) p2 (by unfold dKV; rw [List.length_map]; have : kvs.length < 1000 := q6.1; rw [sizeLine_eq]; omega), ?_⟩
              rw [dk_put]
              have hm : ad ∈ (W1.own p (.lst (vs.eraseIdx z.toNat))).ad := List.mem_of_getElem? p1
              refine d.nx _ _ ((W1.own p (.lst (vs.eraseIdx z.toNat))).own ad (.dK (dKV (putS kvs s t)))) σ ⟨rfl, ?_, ?_, ?_⟩ ⟨e1.ad, e1.f⟩ q6.2
              · refine w2.setR (List.getElem?_eq_some_iff.mp hk).1 p1 ⟨upd_same, fun q hq => ?_⟩
                rcases putS_mem hq with hq | ⟨e2, e3⟩
                · exact p3 q hq
                · rw [e2, e3]
                  exact ⟨hs, ht⟩
              · exact (a1.e0.chg o.new).chgR hm
              · exact ev2.chgR hm
        · exact q1.elim
      | _ => exact q1.elim
  · exact q.elim
end
end Vr

/-! The checker of statements, sound; what a def of the program does. -/
namespace Vr
open PySem PySem.Spec PyProof.Rows L2

abbrev fuel : Nat := 60
def isCall : Expr → Bool
  | .Call .. => true
  | _ => false
def ckE (N : List Str) (sc : Scope) (m : Md) (E : Ex) (e : Expr) : Bool := chk N fuel (.e m) sc E [e]
/-- a comprehension on its name's line -/
def swLc (N : List Str) (sc : Scope) (x : Str) (l : Nat) (E : Ex) (e : Expr) : Bool := match e with
  | .ListComp elt [⟨tg, iter, ifs, 0⟩] scope p => (l == p.line) && decide (sc.names.lookup x = some .local) && !(scope.names.any fun (n, k) => n == x && (k == .local || k == .cell)) && (match E with
    | .lc own pt S T E' => lcC N (chk N fuel) sc own pt S T E' elt tg iter ifs scope
    | _ => false)
  | _ => false
def swOk (l : Nat) (e : Expr) : Bool := match e with
  | .ListComp _ _ _ p => !(l == p.line)
  | e => !isComp e
def asgC (N : List Str) (sc : Scope) (m : Md) (i : Nat) (E : Ex) (st : Stmt) : Bool := match st with
  | .Assign [.Name x px] e _ => decide (N[i]? = some x) && locB sc x && (swLc N sc x px.line E e || (swOk px.line e && ckE N sc m E e))
  | _ => false
def lcl (sc : Scope) (x : Str) : Bool := decide (sc.names.lookup x = some .local)
mutual
def chkS (N : List Str) (sc : Scope) (own : Bool) : Sm → List Stmt → Bool
  | .skip, [] => true
  | .seq a b, sts => (match a with
    | .shr _ => chkS N sc own b sts
    | a => (match sts with
      | st :: rest => chkU N sc own a st && chkS N sc own b rest
      | [] => false))
  | _, _ => false
def chkU (N : List Str) (sc : Scope) (own : Bool) : Sm → Stmt → Bool
  | .skip, .Expr (.Constant (.str _) _ _) _ => true
  | .skip, .Pass _ => true
  | .asg i E, st => asgC N sc .sh i E st
  | .own i E, st => asgC N sc .ow i E st
  | .par i j oi oj A B, .Assign [.Tuple [.Name x px, .Name y py] _ _] (.Tuple [a, b] _ _) _ => decide (N[i]? = some x) && decide (N[j]? = some y) && decide (i ≠ j) && decide (x ≠ y) && lcl sc x && lcl sc y && (py.line == px.line) &&
      noStar a && noStar b && !([a, b].all (foldedForSure 8)) && !([a, b].all (constantsAlone 8)) && ckE N sc (mdOf oi) A a && ckE N sc (mdOf oj) B b
  | .par3 i j l oi oj ol A B C, .Assign [.Tuple [.Name x px, .Name y py, .Name z pz] _ _] (.Tuple [a, b, c] _ _) _ => decide (N[i]? = some x) && decide (N[j]? = some y) && decide (N[l]? = some z) && decide (i ≠ j ∧ i ≠ l ∧ j ≠ l) && decide (x ≠ y ∧ x ≠ z ∧ y ≠ z) &&
      lcl sc x && lcl sc y && lcl sc z && (py.line == px.line) && (pz.line == px.line) && noStar a && noStar b && noStar c && !([a, b, c].all (foldedForSure 8)) && !([a, b, c].all (constantsAlone 8)) && ckE N sc (mdOf oi) A a && ckE N sc (mdOf oj) B b && ckE N sc (mdOf ol) C c
  | .unp is E, .Assign [.Tuple ts _ _] e _ => ptsC N (locB sc) is ts && !isComp e && (match e with
      | .Tuple vs _ _ => swN sc ts vs
      | _ => true) && ckE N sc .sh E e
  | .ite T a b, .If c p q _ => chk N fuel .t sc T [c] && chkS N sc own a p && chkS N sc own b q
  | .for_ pt E a, .For tg iter p [] _ => ptC N (locB sc) pt tg && (isMany pt || !isPr E) && notSetB iter && chk N fuel (.i .sh) sc E [tg, iter] && chkS N sc own a p
  | .whl T a, .While c p [] _ => chk N fuel .t sc T [c] && chkS N sc own a p
  | .ret E, .Return (some e) _ => ckE N sc (mdOf own) E e
  | .reto i, .Return (some (.Name x _)) _ => decide (N[i]? = some x) && visB sc x && nmB x
  | .retn, .Return none _ => true
  | .exp E, .Expr e _ => isCall e && ckE N sc .bo E e
  | .app i E, .Expr (.Call (.Attribute (.Name x _) nm ap) [b] [] cp) _ => decide (nm = "append") && decide (N[i]? = some x) && visB sc x && nmB x && noStar b && (ap.endLine == cp.line) && ckE N sc .sh E b
  | .xtd i E, .Expr (.Call (.Attribute (.Name x _) nm ap) [b] [] cp) _ => decide (nm = "extend") && decide (N[i]? = some x) && visB sc x && nmB x && noStar b && (ap.endLine == cp.line) && ckE N sc .ow E b
  | .sti i A E, .Assign [.Subscript (.Name x _) ix _] e _ => decide (N[i]? = some x) && visB sc x && nmB x && notSlice ix && !isComp e && ckE N sc .bo A ix && ckE N sc .sh E e
  | .hst i j E, .Assign [.Subscript (.Name x _) (.Constant (.int z) _ _) _] e _ => decide (z = (j : Int)) && decide (N[i]? = some x) && visB sc x && nmB x && !isComp e && ckE N sc .sh E e
  | .dpop i kx l E, .Assign [.Subscript (.Name x _) (.Name y _) _] (.Call (.Attribute (.Name z _) nm ap) [b] [] cp) _ => decide (nm = "pop") && decide (N[i]? = some x) && visB sc x && nmB x && decide (N[kx]? = some y) && visB sc y && nmB y && decide (N[l]? = some z) && visB sc z && nmB z && noStar b && (ap.endLine == cp.line) && ckE N sc .bo E b
  | .fob pt i E, .For tg iter [.Expr e _] [] _ => ptC N (locB sc) pt tg && chk N fuel (.i .bo) sc (.bor i) [tg, iter] && notSetB iter && isCall e && ckE N sc .bo E e
  | .pops i, .Expr (.Call (.Attribute (.Name x _) nm ap) [] [] cp) _ => decide (nm = "pop") && decide (N[i]? = some x) && visB sc x && nmB x && (ap.endLine == cp.line)
  | .popa j i, .Assign [.Name y _] (.Call (.Attribute (.Name x _) nm ap) [] [] cp) _ => decide (nm = "pop") && decide (N[i]? = some x) && visB sc x && nmB x && (ap.endLine == cp.line) && decide (N[j]? = some y) && locB sc y
  | .upop is f _ E i, .Assign [.Tuple ts _ _] (.Call (.Name y _) (a :: args) [] _) _ => decide (y = f) && ptsC N (locB sc) is ts && glB sc y && nmB y && noStar a && args.all noStar && chk N fuel (.p i) sc E (a :: args)
  | .fset cn x O E, .Assign [.Attribute o y _] e _ => decide (x = y) && plainBase o && !isComp e && ckE N sc .bo O o && ckE N sc .sh E e
  | .utg tgs E, .Assign [.Tuple ts _ _] e _ => tgsC N sc tgs ts && !isComp e && (match e with
      | .Tuple vs _ _ => swN sc ts vs
      | _ => true) && ckE N sc .sh E e
  | .rse x, .Raise (some (.Call (.Name y _) [.Constant (.str _) _ _] [] _)) none _ => decide (x = y) && glB sc y && nmB y
  | .fail, _ => true
  | _, _ => false
end
/-- a class of exceptions with nothing of its own -/
def ExcFact (G : Sur) (x : Str) : Prop := ∃ C, G.mg x = some (.ref C) ∧ PySem.W.excIn G.K C He.veBase "ValueError.__new__" = true ∧ PySem.W.keepIn G.K (.ref C) = true ∧ PySem.W.subIn G.K (.ref C) (.type "BaseException") = some true ∧ PySem.W.typeIn G.K (.ref C) = some (.type "type")
def NeedS (G : Sur) (k : Nat) : Sm → Prop
  | .skip => True
  | .seq a b => NeedS G k a ∧ NeedS G k b
  | .asg _ E => Need G k E
  | .own _ E => Need G k E
  | .par _ _ _ _ A B => Need G k A ∧ Need G k B
  | .par3 _ _ _ _ _ _ A B C => Need G k A ∧ Need G k B ∧ Need G k C
  | .unp _ E => Need G k E
  | .ite T a b => Need G k T ∧ NeedS G k a ∧ NeedS G k b
  | .for_ _ E a => Need G k E ∧ NeedS G k a
  | .whl T a => Need G k T ∧ NeedS G k a
  | .ret E => Need G k E
  | .reto _ => True
  | .retn => True
  | .exp E => Need G k E
  | .app _ E => Need G k E
  | .xtd _ E => Need G k E
  | .sti _ A E => Need G k A ∧ Need G k E
  | .shr _ => True
  | .rse x => ExcFact G x
  | .fail => True
  | .hst _ _ E => Need G k E
  | .fset c x O E => FldFact G c x ∧ Need G k O ∧ Need G k E
  | .utg ts E => TgF G ts ∧ Need G k E
  | .oset c F o i e => MthFact G k c "__setitem__" F ∧ Need G k o ∧ Need G k i ∧ Need G k e
  | .oaug c F _ e => MthFact G k c "__iadd__" F ∧ Need G k e
  | .fob _ _ E => Need G k E
  | .dpop _ _ _ E => Need G k E
  | .pops _ => True
  | .popa _ _ => True
  | .upop _ f F E _ => FnFact G k f F ∧ Need G k E
section
variable {k : Nat} {N : List Str} {sc : Scope} {W0 : Wl} {R : XR} {X : Cx} {own : Bool}
theorem ckE_ok (c : Cxt k N sc W0 R X) (hb : Boots X.mg) {m : Md} {E : Ex} {e : Expr} (h : ckE N sc m E e = true) (hn : Need (sur X) k E) : PE X e (tE (sur X) W0 R m E) := chk_ok _ _ _ _ _ h X R c hb hn e rfl
theorem pe_slot (c : Cxt k N sc W0 R X) {i : Nat} {x : Str} {p : Pos} (h1 : N[i]? = some x) (h2 : visB sc x = true) (h3 : nmB x = true) : PE X (.Name x p) (fun σ H Q => ∃ v, σ[i]? = some (some v) ∧ Q v H) :=
  pe_var (by rw [c.n]; exact h1) (vis_of c h2) (nm_of h3).1 (nm_of h3).2
theorem loc_of' (c : Cxt k N sc W0 R X) {x : Str} (h : locB sc x = true) : L2.Loc X.env.scope x := by
  rw [c.sc]
  exact loc_of h
theorem lcl_of (c : Cxt k N sc W0 R X) {x : Str} (h : lcl sc x = true) : X.env.scope.names.lookup x = some .local := by
  rw [c.sc]
  exact of_decide_eq_true h
theorem nd_of (c : Cxt k N sc W0 R X) : X.N.Nodup := by rw [c.n]; exact c.nd
theorem asgC_ok (c : Cxf k N sc W0 R X) (hb : Boots X.mg) {m : Md} {i : Nat} {E : Ex} {st : Stmt} (h : asgC N sc m i E st = true) (hn : Need (sur X) k E) : PS X st (tAsg (tE (sur X) W0 R m E) (gName i)) := by
  unfold asgC at h
  split at h
  · rename_i x px e p
    simp only [Bool.and_eq_true, Bool.or_eq_true] at h
    obtain ⟨⟨h1, h2⟩, h3⟩ := h
    have n1 : X.N[i]? = some x := by rw [c.n]; exact of_decide_eq_true h1
    rcases h3 with h3 | ⟨h3, h4⟩
    · unfold swLc at h3
      split at h3
      · rename_i elt tg iter ifs scope cp
        simp only [Bool.and_eq_true, Bool.not_eq_true'] at h3
        obtain ⟨⟨⟨a1, a2⟩, a3⟩, a4⟩ := h3
        split at a4
        · rename_i own pt S T E'
          obtain ⟨l1, l2, l3, l4, l5, l6, l7, l8⟩ := lcC_ok (fun kn sc E es => chk_ok fuel kn sc E es) a4 c.toCxt hb hn
          have loc := lcl_of c.toCxt a2
          exact r_setLc c.calm (nd_of c.toCxt) n1 loc (sw_true c.kind loc a1 a3) l1 l2 l3 l4 l5 l6 l7 l8
        · cases a4
      · cases h3
    · refine ps_set (nd_of c.toCxt) n1 (loc_of' c.toCxt h2) (ckE_ok c.toCxt hb h4 hn) ?_ (.inl (c.fn x))
      unfold swOk at h3
      split at h3
      · rw [Bool.not_eq_true'] at h3
        exact sw_off h3
      · rw [Bool.not_eq_true'] at h3
        exact sw_plain h3
  · cases h
theorem Cxf.pats (c : Cxf k N sc W0 R X) : ∀ x, locB sc x = true → L2.Loc X.env.scope x ∧ (X.fn x = true ∨ X.env.scope.names.lookup x = some .local) := fun x h => ⟨loc_of' c.toCxt h, .inl (c.fn x)⟩
theorem append_ps {i : Nat} {x nm : Str} {b : Expr} {p ap cp pos : Pos} {id : String} {r : V → List V → Hp → VK → Prop} {m : Md} {E : Ex} (c : Cxt k N sc W0 R X) (hi : N[i]? = some x) (hv : visB sc x = true) (hm : nmB x = true) (hs : noStar b = true) (hl : (ap.endLine == cp.line) = true)
    (slot : Slot "list" nm id) (ty : typeOf (.builtin id) = pure (.type "method_descriptor")) (mt : MtM X id r) (he : PE X b (tE (sur X) W0 R m E)) : PS X (.Expr (.Call (.Attribute (.Name x p) nm ap) [b] [] cp) pos) (tDrop (tBM X.K "list" r (fun σ H Q => ∃ v, σ[i]? = some (some v) ∧ Q v H) (tCons (tE (sur X) W0 R m E) tNil))) :=
  ps_expr (pe_bm PySem.F.plainAttrs_list slot ty mt (pe_slot c hi hv hm) (pa_cons he pa_nil (star_plain hs)) (base_plain rfl) (by rw [star_plain hs]; rfl) hl (star_plain hs) rfl) rfl
theorem both_ok (c : Cxf k N sc W0 R X) (hb : Boots X.mg) : ∀ s : Sm, NeedS (sur X) k s → (∀ st, chkU N sc own s st = true → PS X st (tS (sur X) W0 R own s)) ∧ (∀ sts, chkS N sc own s sts = true → PSs X sts (tS (sur X) W0 R own s)) := by
  intro s
  induction s with
  | skip =>
    intro hn
    refine ⟨fun st h => ?_, fun sts h => ?_⟩
    · unfold chkU at h
      split at h <;> first
        | exact PS.imp ps_doc fun D σ H h => skip_read h
        | exact PS.imp ps_pass fun D σ H h => skip_read h
        | (rename_i z _; cases z; done)
        | (rename_i z; cases z; done)
        | cases h
    · cases sts with
      | nil => exact PSs.imp pss_nil fun D σ H h => skip_read h
      | cons st rest => simp [chkS] at h
  | seq a b iha ihb =>
    intro hn
    refine ⟨fun st h => by simp [chkU] at h, fun sts h => ?_⟩
    have ha := (iha hn.1).1
    have hb' := (ihb hn.2).2
    clear iha ihb
    cases a with
    | shr i => exact PSs.imp (hb' sts (by simpa [chkS] using h)) fun D σ H h => shr_read h
    | _ =>
      cases sts with
      | nil => simp [chkS] at h
      | cons st rest =>
        simp only [chkS, Bool.and_eq_true] at h
        exact PSs.imp (pss_cons (ha st h.1) (hb' rest h.2)) fun D σ H h => seq_read h
  | asg i E =>
    intro hn
    exact ⟨fun st h => PS.imp (asgC_ok c hb (by simpa [chkU] using h) hn) fun D σ H h => asg_read h, fun sts h => by simp [chkS] at h⟩
  | own i E =>
    intro hn
    exact ⟨fun st h => PS.imp (asgC_ok c hb (by simpa [chkU] using h) hn) fun D σ H h => own_read h, fun sts h => by simp [chkS] at h⟩
  | par i j oi oj A B =>
    intro hn
    refine ⟨fun st h => ?_, fun sts h => by simp [chkS] at h⟩
    unfold chkU at h
    split at h <;> try contradiction
    rename_i x px y py _ _ a b _ _ _ heq
    cases heq
    simp only [Bool.and_eq_true, Bool.not_eq_true'] at h
    obtain ⟨⟨⟨⟨⟨⟨⟨⟨⟨⟨⟨⟨h1, h2⟩, h3⟩, h4⟩, h5⟩, h6⟩, h7⟩, h8⟩, h9⟩, h10⟩, h11⟩, h12⟩, h13⟩ := h
    have lx := lcl_of c.toCxt h5
    have ly := lcl_of c.toCxt h6
    exact PS.imp (ps_par c.calm (nd_of c.toCxt) (by rw [c.n]; exact of_decide_eq_true h1) (by rw [c.n]; exact of_decide_eq_true h2) (of_decide_eq_true h3) lx ly (pa_cons (ckE_ok c.toCxt hb h12 hn.1) (pa_cons (ckE_ok c.toCxt hb h13 hn.2) pa_nil (star_plain h9)) (star_plain h8))
      (swaps_two c.kind lx ly h7 (of_decide_eq_true h4) h8 h9 h10 h11) rfl) fun D σ H h => par_read h
  | par3 i j l oi oj ol A B C =>
    intro hn
    refine ⟨fun st h => ?_, fun sts h => by simp [chkS] at h⟩
    unfold chkU at h
    split at h <;> try contradiction
    rename_i x px y py z pz _ _ a b d _ _ _ heq
    cases heq
    simp only [Bool.and_eq_true, Bool.not_eq_true'] at h
    obtain ⟨⟨⟨⟨⟨⟨⟨⟨⟨⟨⟨⟨⟨⟨⟨⟨⟨h1, h2⟩, h3⟩, h4⟩, h5⟩, h6⟩, h7⟩, h8⟩, h9⟩, h10⟩, h11⟩, h12⟩, h13⟩, h14⟩, h15⟩, h16⟩, h17⟩, h18⟩ := h
    have lx := lcl_of c.toCxt h6
    have ly := lcl_of c.toCxt h7
    have lz := lcl_of c.toCxt h8
    obtain ⟨d1, d2, d3⟩ := of_decide_eq_true h4
    obtain ⟨d4, d5, d6⟩ := of_decide_eq_true h5
    exact PS.imp (ps_par3 c.calm (nd_of c.toCxt) (by rw [c.n]; exact of_decide_eq_true h1) (by rw [c.n]; exact of_decide_eq_true h2) (by rw [c.n]; exact of_decide_eq_true h3) d1 d2 d3 lx ly lz
      (pa_cons (ckE_ok c.toCxt hb h16 hn.1) (pa_cons (ckE_ok c.toCxt hb h17 hn.2.1) (pa_cons (ckE_ok c.toCxt hb h18 hn.2.2) pa_nil (star_plain h13)) (star_plain h12)) (star_plain h11))
      (swaps_three c.kind lx ly lz h9 h10 d4 d5 d6 h11 h12 h13 h14 h15) rfl) fun D σ H h => par3_read h
  | unp is E =>
    intro hn
    refine ⟨fun st h => ?_, fun sts h => by simp [chkS] at h⟩
    unfold chkU at h
    split at h <;> try contradiction
    rename_i ts _ _ e _ heq
    cases heq
    simp only [Bool.and_eq_true, Bool.not_eq_true'] at h
    obtain ⟨⟨⟨h1, h2⟩, h3⟩, h4⟩ := h
    refine PS.imp (ps_asg (ckE_ok c.toCxt hb h4 hn) (pg_pt (ok := locB sc) c.calm (nd_of c.toCxt) c.pats (.many is) _ (by rw [c.n]; exact h1)) (sw_tup h2) ?_ rfl) fun D σ H h => unp_read h
    cases e with
    | Tuple vs _ _ => exact swaps_none (by rw [c.sc]; exact h3)
    | _ => exact swaps_none' rfl
  | ite T a b iha ihb =>
    intro hn
    refine ⟨fun st h => ?_, fun sts h => by simp [chkS] at h⟩
    unfold chkU at h
    split at h <;> try contradiction
    rename_i e p q _ heq
    cases heq
    simp only [Bool.and_eq_true] at h
    exact PS.imp (ps_if (chk_ok _ _ _ _ _ h.1.1 X R c.toCxt hb hn.1 _ rfl) ((iha hn.2.1).2 _ h.1.2) ((ihb hn.2.2).2 _ h.2)) fun D σ H h => ite_read h
  | for_ pt E a iha =>
    intro hn
    refine ⟨fun st h => ?_, fun sts h => by simp [chkS] at h⟩
    unfold chkU at h
    split at h <;> try contradiction
    rename_i tg iter p _ heq
    cases heq
    simp only [Bool.and_eq_true] at h
    obtain ⟨⟨⟨⟨h1, h2⟩, h3⟩, h4⟩, h5⟩ := h
    have hp : isPr E = false ∨ ∃ is, pt = .many is := by
      cases hs : isPr E with
      | false => exact .inl rfl
      | true =>
        rw [hs] at h2
        cases pt with
        | one i => cases h2
        | many is => exact .inr ⟨is, rfl⟩
    refine PS.imp (ps_for c.po c.calm (chk_ok _ _ _ _ _ h4 X R c.toCxt hb hn.1 _ _ rfl) (pg_pt (ok := locB sc) c.calm (nd_of c.toCxt) c.pats pt tg (by rw [c.n]; exact h1)) ((iha hn.2).2 _ h5) ?_) fun D σ H h => for_read hp h
    intro x
    cases iter <;> first | rfl | cases h3
  | whl T a iha =>
    intro hn
    refine ⟨fun st h => ?_, fun sts h => by simp [chkS] at h⟩
    unfold chkU at h
    split at h <;> try contradiction
    rename_i e p _ heq
    cases heq
    simp only [Bool.and_eq_true] at h
    exact PS.imp (ps_while c.po (chk_ok _ _ _ _ _ h.1 X R c.toCxt hb hn.1 _ rfl) ((iha hn.2).2 _ h.2)) fun D σ H h => whl_read h
  | ret E =>
    intro hn
    refine ⟨fun st h => ?_, fun sts h => by simp [chkS] at h⟩
    unfold chkU at h
    split at h <;> try contradiction
    rename_i e _ heq
    cases heq
    exact PS.imp (ps_ret (ckE_ok c.toCxt hb h hn)) fun D σ H h => ret_read h
  | reto i =>
    intro hn
    refine ⟨fun st h => ?_, fun sts h => by simp [chkS] at h⟩
    unfold chkU at h
    split at h <;> try contradiction
    rename_i x _ _ heq
    cases heq
    simp only [Bool.and_eq_true] at h
    exact PS.imp (ps_ret (pe_slot c.toCxt (of_decide_eq_true h.1.1) h.1.2 h.2)) fun D σ H h => reto_read h
  | retn =>
    intro hn
    refine ⟨fun st h => ?_, fun sts h => by simp [chkS] at h⟩
    unfold chkU at h
    split at h <;> try contradiction
    exact PS.imp ps_retN fun D σ H h => retn_read h
  | exp E =>
    intro hn
    refine ⟨fun st h => ?_, fun sts h => by simp [chkS] at h⟩
    unfold chkU at h
    split at h <;> try contradiction
    rename_i e _ heq
    cases heq
    simp only [Bool.and_eq_true] at h
    refine PS.imp (ps_expr (ckE_ok c.toCxt hb h.2 hn) ?_) fun D σ H h => exp_read h
    refine sw_plain ?_
    cases e <;> first | rfl | (cases h.1; done)
  | app i E =>
    intro hn
    refine ⟨fun st h => ?_, fun sts h => by simp [chkS] at h⟩
    unfold chkU at h
    split at h <;> try contradiction
    rename_i x _ nm ap b cp _ heq
    cases heq
    simp only [Bool.and_eq_true] at h
    obtain ⟨⟨⟨⟨⟨⟨h1, h2⟩, h3⟩, h4⟩, h5⟩, h6⟩, h7⟩ := h
    obtain rfl := of_decide_eq_true h1
    exact PS.imp (append_ps c.toCxt (of_decide_eq_true h2) h3 h4 h5 h6 PySem.F.slot_list_append PySem.F.type_list_append mt_append (ckE_ok c.toCxt hb h7 hn)) fun D σ H h => app_read h
  | xtd i E =>
    intro hn
    refine ⟨fun st h => ?_, fun sts h => by simp [chkS] at h⟩
    unfold chkU at h
    split at h <;> try contradiction
    rename_i x _ nm ap b cp _ heq
    cases heq
    simp only [Bool.and_eq_true] at h
    obtain ⟨⟨⟨⟨⟨⟨h1, h2⟩, h3⟩, h4⟩, h5⟩, h6⟩, h7⟩ := h
    obtain rfl := of_decide_eq_true h1
    exact PS.imp (append_ps c.toCxt (of_decide_eq_true h2) h3 h4 h5 h6 PySem.F.slot_list_extend PySem.F.type_list_extend mt_extend (ckE_ok c.toCxt hb h7 hn)) fun D σ H h => xtd_read h
  | sti i A E =>
    intro hn
    refine ⟨fun st h => ?_, fun sts h => by simp [chkS] at h⟩
    unfold chkU at h
    split at h <;> try contradiction
    rename_i x _ ix _ e _ heq
    cases heq
    simp only [Bool.and_eq_true, Bool.not_eq_true'] at h
    obtain ⟨⟨⟨⟨⟨⟨h1, h2⟩, h3⟩, h4⟩, h5⟩, h6⟩, h7⟩ := h
    refine PS.imp (ps_asg (ckE_ok c.toCxt hb h7 hn.2) (pg_sub (pe_slot c.toCxt (of_decide_eq_true h1) h2 h3) (ckE_ok c.toCxt hb h6 hn.1) set_list ?_) (sw_tup h5) ?_ rfl) fun D σ H h => sti_read h
    · intro v
      cases ix <;> first | rfl | cases h4
    · cases e <;> first | rfl | cases h5
  | hst i j E =>
    intro hn
    refine ⟨fun st h => ?_, fun sts h => by simp [chkS] at h⟩
    unfold chkU at h
    split at h <;> try contradiction
    rename_i x _ z _ _ _ e _ heq
    cases heq
    simp only [Bool.and_eq_true, Bool.not_eq_true'] at h
    obtain ⟨⟨⟨⟨⟨h1, h2⟩, h3⟩, h4⟩, h5⟩, h6⟩ := h
    obtain rfl := of_decide_eq_true h1
    refine PS.imp (ps_asg (ckE_ok c.toCxt hb h6 hn) (pg_sub (pe_slot c.toCxt (of_decide_eq_true h2) h3 h4) pe_int set_list) (sw_tup h5) ?_ rfl) fun D σ H h => hst_read h
    cases e <;> first | rfl | cases h5
  | fset cn x O E =>
    intro hn
    refine ⟨fun st h => ?_, fun sts h => by simp [chkS] at h⟩
    unfold chkU at h
    split at h <;> try contradiction
    rename_i o y _ e _ heq
    cases heq
    simp only [Bool.and_eq_true, Bool.not_eq_true'] at h
    obtain ⟨⟨⟨⟨h1, h2⟩, h3⟩, h4⟩, h5⟩ := h
    obtain rfl := of_decide_eq_true h1
    exact PS.imp (ps_fld (ckE_ok c.toCxt hb h4 hn.2.1) (ckE_ok c.toCxt hb h5 hn.2.2) (sw_plain h3)) fun D σ H h => fset_read hn.1 h
  | utg tgs E =>
    intro hn
    refine ⟨fun st h => ?_, fun sts h => by simp [chkS] at h⟩
    unfold chkU at h
    split at h <;> try contradiction
    rename_i ts _ _ e _ heq
    cases heq
    simp only [Bool.and_eq_true, Bool.not_eq_true'] at h
    obtain ⟨⟨⟨h1, h2⟩, h3⟩, h4⟩ := h
    obtain ⟨t1, t2, t3⟩ := tgs_ok c tgs ts h1
    refine PS.imp (ps_asg (ckE_ok c.toCxt hb h4 hn.2) (pg_tup c.calm t1 t2 t3) (sw_tup h2) ?_ rfl) fun D σ H h => utg_read hn.1 h
    cases e with
    | Tuple vs _ _ => exact swaps_none (by rw [c.sc]; exact h3)
    | _ => exact swaps_none' rfl
  | oset cn F o i e =>
    intro hn
    refine ⟨fun st h => ?_, fun sts h => by simp [chkS] at h⟩
    unfold chkU at h
    cases h
  | oaug cn F i e =>
    intro hn
    refine ⟨fun st h => ?_, fun sts h => by simp [chkS] at h⟩
    unfold chkU at h
    cases h
  | dpop i kx l E =>
    intro hn
    refine ⟨fun st h => ?_, fun sts h => by simp [chkS] at h⟩
    unfold chkU at h
    split at h <;> try contradiction
    rename_i x _ y _ _ z _ nm ap b cp _ heq
    cases heq
    simp only [Bool.and_eq_true] at h
    obtain ⟨⟨⟨⟨⟨⟨⟨⟨⟨⟨⟨⟨h1, h2⟩, h3⟩, h4⟩, h5⟩, h6⟩, h7⟩, h8⟩, h9⟩, h10⟩, h11⟩, h12⟩, h13⟩ := h
    obtain rfl := of_decide_eq_true h1
    have hu := c.room.units
    exact PS.imp (ps_dput (by omega) (pe_slot c.toCxt (of_decide_eq_true h2) h3 h4) (pe_slot c.toCxt (of_decide_eq_true h5) h6 h7) (pe_bm PySem.F.plainAttrs_list PySem.F.slot_list_pop PySem.F.type_list_pop mt_popAt (pe_slot c.toCxt (of_decide_eq_true h8) h9 h10) (pa_cons (ckE_ok c.toCxt hb h13 hn) pa_nil (star_plain h11)) (base_plain rfl) (by rw [star_plain h11]; rfl) h12 (star_plain h11) rfl) (sw_plain rfl)) fun D σ H h => dpop_read h
  | fob pt i E =>
    intro hn
    refine ⟨fun st h => ?_, fun sts h => by simp [chkS] at h⟩
    unfold chkU at h
    split at h <;> try contradiction
    rename_i tg iter e _ _ heq
    cases heq
    simp only [Bool.and_eq_true] at h
    obtain ⟨⟨⟨⟨h1, h2⟩, h3⟩, h4⟩, h5⟩ := h
    refine PS.imp (ps_for c.po c.calm (chk_ok _ _ _ _ _ h2 X R c.toCxt hb (by unfold Need; trivial) _ _ rfl) (pg_pt (ok := locB sc) c.calm (nd_of c.toCxt) c.pats pt tg (by rw [c.n]; exact h1)) (pss_cons (ps_expr (ckE_ok c.toCxt hb h5 hn) (sw_plain (by cases e <;> first | rfl | (cases h4; done)))) pss_nil) ?_) fun D σ H h => fob_read h
    intro x
    cases iter <;> first | rfl | cases h3
  | pops i =>
    intro hn
    refine ⟨fun st h => ?_, fun sts h => by simp [chkS] at h⟩
    unfold chkU at h
    split at h <;> try contradiction
    rename_i x _ nm ap cp _ heq
    cases heq
    simp only [Bool.and_eq_true] at h
    obtain ⟨⟨⟨⟨h1, h2⟩, h3⟩, h4⟩, h5⟩ := h
    obtain rfl := of_decide_eq_true h1
    exact PS.imp (ps_expr (pe_bm0 PySem.F.plainAttrs_list PySem.F.slot_list_pop PySem.F.type_list_pop mt_pop (pe_slot c.toCxt (of_decide_eq_true h2) h3 h4) (base_plain rfl) h5) rfl) fun D σ H h => pops_read h
  | popa j i =>
    intro hn
    refine ⟨fun st h => ?_, fun sts h => by simp [chkS] at h⟩
    unfold chkU at h
    split at h <;> try contradiction
    rename_i y _ x _ nm ap cp _ heq
    cases heq
    simp only [Bool.and_eq_true] at h
    obtain ⟨⟨⟨⟨⟨⟨h1, h2⟩, h3⟩, h4⟩, h5⟩, h6⟩, h7⟩ := h
    obtain rfl := of_decide_eq_true h1
    exact PS.imp (ps_set (nd_of c.toCxt) (by rw [c.n]; exact of_decide_eq_true h6) (loc_of' c.toCxt h7) (pe_bm0 PySem.F.plainAttrs_list PySem.F.slot_list_pop PySem.F.type_list_pop mt_pop (pe_slot c.toCxt (of_decide_eq_true h2) h3 h4) (base_plain rfl) h5) (sw_plain rfl) (.inl (c.fn y))) fun D σ H h => popa_read h
  | upop is f F E i =>
    intro hn
    refine ⟨fun st h => ?_, fun sts h => by simp [chkS] at h⟩
    unfold chkU at h
    split at h <;> try contradiction
    rename_i ts _ _ y _ a args _ _ heq
    cases heq
    simp only [Bool.and_eq_true] at h
    obtain ⟨⟨⟨⟨⟨⟨h1, h2⟩, h3⟩, h4⟩, h5⟩, h6⟩, h7⟩ := h
    obtain rfl := of_decide_eq_true h1
    obtain ⟨ad, fd, ps, k1, k2, k3, k4⟩ := hn.1.ex
    exact PS.imp (ps_asg (pe_call (dvs := []) (E := EXr (sur X) W0 R) k2 c.room (gl_of c.toCxt h3) k1 k3 k4 .nil c.pass (chk_ok _ _ _ _ _ h7 X R c.toCxt hb hn.2) (nm_of h4).1 (star_plain h5) (star_none h6)) (pg_pt (ok := locB sc) c.calm (nd_of c.toCxt) c.pats (.many is) _ (by rw [c.n]; exact h2)) (sw_tup rfl) (swaps_none' rfl) rfl) fun D σ H h => upop_read h
  | shr i =>
    intro hn
    refine ⟨fun st h => by simp [chkU] at h, fun sts h => by simp [chkS] at h⟩
  | rse x =>
    intro hn
    refine ⟨fun st h => ?_, fun sts h => by simp [chkS] at h⟩
    unfold chkU at h
    split at h <;> try contradiction
    rename_i y _ m _ _ _ _ heq
    cases heq
    simp only [Bool.and_eq_true] at h
    obtain ⟨⟨h1, h2⟩, h3⟩ := h
    obtain rfl := of_decide_eq_true h1
    obtain ⟨C, e1, e2, e3, e4, e5⟩ := hn
    refine PS.imp (ps_raise c.calm c.tk (pmk_own PySem.F.excBase_ValueError e2 e1 e3 (raises_own e4 e5) (gl_of c.toCxt h2) (nm_of h3).1)) fun D σ H h => ?_
    obtain ⟨W, S, ρ, Dd, a, q, d⟩ := h
    rw [← a.h]
    exact ⟨⟨x, none⟩, S, W, rfl, a.w, a.e0, ⟨C, rfl, e1, trivial⟩, q⟩
  | fail =>
    intro hn
    refine ⟨fun st h => PS.imp ps_never fun D σ H h => ?_, fun sts h => by simp [chkS] at h⟩
    obtain ⟨W, S, ρ, Dd, a, q, d⟩ := h
    exact q

/-! ### defs -/
def ev0 (n : Nat) (ds : List Dt) : Ev := ds.map .sh ++ List.replicate (n - ds.length) .no
theorem ev_start {K : PySem.W.Frag} {W : Wl} {vs : List V} {ds : List Dt} (r : RepL K W vs ds) (N : List Str) : EvOk K W.h W (L2.start N vs) (ev0 N.length ds) := by
  have hl := r.length
  refine ⟨by unfold L2.start ev0; simp [hl], fun i s q => ?_, fun i j es fs l q1 => ?_⟩
  · unfold ev0 at q
    unfold L2.start
    by_cases hi : i < ds.length
    · rw [List.getElem?_append_left (by simpa using hi), List.getElem?_map] at q
      obtain ⟨d, h1, h2⟩ := Option.map_eq_some_iff.mp q
      obtain ⟨v, h3, h4⟩ := r.get h1
      subst h2
      refine ⟨some v, ?_, v, rfl, h4⟩
      rw [List.getElem?_append_left (by simpa [hl] using hi), List.getElem?_map, h3]
      rfl
    · rw [List.getElem?_append_right (by simpa using Nat.le_of_not_lt hi), List.getElem?_replicate, List.length_map] at q
      split at q
      · rename_i hlt
        cases q
        refine ⟨none, ?_, trivial⟩
        rw [List.getElem?_append_right (by simp [hl]; omega), List.getElem?_replicate, List.length_map, if_pos (by omega)]
      · cases q
  · exfalso
    unfold ev0 at q1
    by_cases hi : i < ds.length
    · rw [List.getElem?_append_left (by simpa using hi), List.getElem?_map] at q1
      obtain ⟨d, h1, h2⟩ := Option.map_eq_some_iff.mp q1
      cases h2
    · rw [List.getElem?_append_right (by simpa using Nat.le_of_not_lt hi), List.getElem?_replicate] at q1
      split at q1 <;> cases q1
end
theorem EXr.imp {G : Sur} {W : Wl} {R : XR} {E : XK} {cls : Value} {dd : Option Addr} {H : Hp} (h : EXr G W (fun x S' => R x S' ∧ ∀ cls dd W', Wd G W' S' → Ext W W' → RepX G W' cls dd x → E cls dd W'.h) cls dd H) : E cls dd H := by
  obtain ⟨x, S', W', rfl, w, e, r, _, q⟩ := h
  exact q cls dd W' w e r
/-- the same resources, or fewer draws left -/
def RsLe : Rs → Rs → Prop
  | .deck n, .deck m => n ≤ m
  | a, b => a = b
def Sle (A B : Store) : Prop := A.length = B.length ∧ ∀ (k : Nat) (a b : Rs), A[k]? = some a → B[k]? = some b → RsLe a b
theorem RsLe.refl : ∀ r : Rs, RsLe r r
  | .deck _ => Nat.le_refl _
  | .obj _ _ => rfl
  | .dct _ => rfl
theorem Sle.refl (S : Store) : Sle S S := ⟨rfl, fun k a b h1 h2 => by rw [h1] at h2; cases h2; exact RsLe.refl _⟩
theorem Wd.weak {G : Sur} {W : Wl} {A B : Store} (l : Sle A B) (w : Wd G W B) : Wd G W A := by
  refine ⟨w.sub, by rw [l.1]; exact w.len, w.nd, fun k a h => ?_⟩
  have hk : k < B.length := by
    rw [← l.1]
    exact (List.getElem?_eq_some_iff.mp h).1
  obtain ⟨p, h1, h2, h3⟩ := w.res k _ (List.getElem?_eq_getElem hk)
  refine ⟨p, h1, h2, ?_⟩
  have q := l.2 k a _ h (List.getElem?_eq_getElem hk)
  cases e : B[k] with
  | deck m =>
    rw [e] at q h3
    cases a with
    | deck n =>
      obtain ⟨x, y, c, z1, z2, z3, z4, z5⟩ := h3
      have q' : n ≤ m := q
      exact ⟨x, y, c, z1, z2, z3, z4, by omega⟩
    | obj c fs => cases q
    | dct kvs => cases q
  | dct kvs =>
    rw [e] at q h3
    cases a with
    | deck n => cases q
    | obj c' fs' => cases q
    | dct kvs' =>
      have q' : Rs.dct kvs' = Rs.dct kvs := q
      rw [q']
      exact h3
  | obj c fs =>
    rw [e] at q h3
    cases a with
    | deck n => cases q
    | dct kvs => cases q
    | obj c' fs' =>
      have q' : Rs.obj c' fs' = Rs.obj c fs := q
      rw [q']
      exact h3
/-- what is to be shown of a def's body -/
def Body (F : Fn) (n m : Nat) (s : Sm) : Prop := ∀ (ds : List Dt) (S : Store) (Q : DK) (R : XR), F.run ds S Q R → ds.length = n ∧ wps s R (ev0 m ds) S ⟨fun _ S' => ∃ A, Sle A S' ∧ Q .non A, fun d S' => ∃ A, Sle A S' ∧ Q d A⟩
theorem ok_of {P : Program} {w : World} {K : PySem.W.Frag} {mg : Str → Option Value} {base : Heap} {f qual : Str} {params : Arguments} {body : List Stmt} {scope : Scope} {a : Addr} {fd : FuncData} {N ps : List Str} {s : Sm} {k : Nat} {F : Fn}
    (FD : FunD K f qual params body scope [] [] a fd) (hs : C8.scC N ps scope = true) (hc : chkS N scope F.own s body = true) (hb : Boots mg) (hn : NeedS ⟨P, w, K, mg, base⟩ k s) (hF : Body F ps.length N.length s) : FnOk P w K mg base (L2.CX P w) (k + 1) a fd ps (spF ⟨P, w, K, mg, base⟩ F) := by
  have sc := C8.fnScope_by hs
  refine FD.ok sc (fun vs H Q E h => ?_) (fun cdv A outer s0 H vs Q E hr hsp => ?_)
  · obtain ⟨W, S, ds, _, _, r, q⟩ := h
    rw [r.length]
    exact (hF _ _ _ _ q).1
  · obtain ⟨W, S, ds, rfl, wd, r, q⟩ := hsp
    obtain ⟨_, q⟩ := hF _ _ _ _ q
    generalize hX : cxOf (L2.CX P w) P w K mg base N qual scope a cdv A outer s0 W.h E = X
    have e1 : sur X = ⟨P, w, K, mg, base⟩ := by rw [← hX]; rfl
    have tk0 : Takes X (fun cls d _ H => E cls d H) := by rw [← hX]; exact takes_of rfl rfl rfl rfl
    have tk : Takes X (fun cls d _ H => EXr (sur X) W (fun x S' => True ∧ ∀ cls dd W', Wd (sur X) W' S' → Ext W W' → RepX (sur X) W' cls dd x → E cls dd W'.h) cls d H) := tk0.imp fun cls d σ H h => h.imp
    have c : Cxf k N scope W (fun x S' => True ∧ ∀ cls dd W', Wd (sur X) W' S' → Ext W W' → RepX (sur X) W' cls dd x → E cls dd W'.h) X := by
      refine { n := by rw [← hX]; rfl, nd := sc.nd, sc := by rw [← hX]; rfl, kind := by rw [← hX]; exact sc.kind, calm := by rw [← hX]; rfl, room := by rw [← hX]; exact hr, pass := passes_call tk fun _ _ _ _ h => h, fn := fun x => by rw [← hX]; rfl, po := ?_, tk := tk }
      rw [← hX]
      exact passes_of rfl
    have hb' : Boots X.mg := by rw [← hX]; exact hb
    refine ⟨_, (both_ok (own := F.own) c hb' s (by rw [e1]; exact hn)).2 body hc, W, S, ev0 N.length ds, _, ⟨rfl, by rw [e1]; exact wd, Ext.refl W, ?_⟩, wps_mono _ _ _ _ _ _ _ (fun x S' h => ⟨trivial, by rw [e1]; exact h⟩) (fun _ _ h => h) (fun _ _ h => h) q, ?_⟩
    · have e2 : X.K = K := by rw [← hX]; rfl
      show EvOk X.K W.h W _ _
      rw [e2]
      exact ev_start r N
    · rw [e1]
      refine ⟨fun ρ' S' W' σ' at_ g ⟨B, l, h⟩ => ?_, fun d S' z W' w' e' r' ⟨B, l, h⟩ => h z W' (w'.weak l) e' r'⟩
      refine h .non W' (at_.w.weak l) at_.e0 ?_
      cases F.own with
      | true => exact ⟨fun ds e => (nomatch e), fun _ => .non⟩
      | false => exact .non
theorem fact_of {P : Program} {w : World} {K : PySem.W.Frag} {mg : Str → Option Value} {base : Heap} {f qual : Str} {params : Arguments} {body : List Stmt} {scope : Scope} {a : Addr} {fd : FuncData} {N ps : List Str} {s : Sm} {k : Nat} {F : Fn}
    (hm : mg f = some (.ref a)) (FD : FunD K f qual params body scope [] [] a fd) (hs : C8.scC N ps scope = true)
    (hbind : ∀ (kV doc pm : Value) (an : Option Addr) (cdv ct : Value) (us : List Value), us.length = ps.length → bindArgs (PySem.W.fnOf f qual params body scope .none kV doc pm an cdv ct) ⟨us, []⟩ = pure (ps.zip us))
    (hc : chkS N scope F.own s body = true) (hb : Boots mg) (hn : NeedS ⟨P, w, K, mg, base⟩ k s) (hF : Body F ps.length N.length s) : FnFact ⟨P, w, K, mg, base⟩ (k + 1) f F :=
  ⟨⟨a, fd, ps, hm, ok_of FD hs hc hb hn hF, FD.kp, FD.bindsN hbind⟩⟩
end Vr

/-! What a law's head tells: defs, constants; from there to facts. -/
namespace Vr
open PySem PySem.Spec PyProof.Rows L2

def obsY (n : Nat) (fa : List He.Fa) (fn : List He.DefD) (ex : PySem.W.Frag → Bool) (g : Addr → Option Obj) : He.AlD × Bool := (He.obsDG n fa fn g, ex (He.frG g (He.asD g n)))
def hookY (n : Nat) (fa : List He.Fa) (fn : List He.DefD) (ex : PySem.W.Frag → Bool) : PySem.W.Hook where
  α := He.AlD × Bool
  obs := fun s => obsY n fa fn ex s.heap.get?
  val := fun _ => (He.valD fn, true)
  says := fun _ h => ∃ K : PySem.W.Frag, K.In h ∧ He.SaysD fa fn K ∧ ex K = true
  of := fun _ _ e => ⟨_, He.frG_in, congrArg Prod.fst e, congrArg Prod.snd e⟩
  keeps := fun _ _ _ ⟨K, hK, c⟩ k => ⟨K, PySem.W.Frag.In.keeps hK k, c⟩
theorem obsY_eq {n : Nat} {fa : List He.Fa} {fn : List He.DefD} {ex : PySem.W.Frag → Bool} {g : Addr → Option Obj} {s : Shared} (h : ∀ a, g a = s.heap.get? a) : obsY n fa fn ex g = (hookY n fa fn ex).obs s := by
  have e : g = s.heap.get? := funext h
  rw [e] <;> rfl
/-- a module's name holds a tuple of texts -/
def tupK (K : PySem.W.Frag) (x : Str) (zs : List Str) : Bool := match PySem.W.nsIn K mainGlobals x with
  | some (some (.ref a)) => (match K.lookup a with
    | some o => decide (o.cls = .type "tuple") && decide (o.dict = none) && (match o.data with
      | .seq its _ => decide (its.toList.map (fun v => match v with | .str z _ => some z | _ => none) = zs.map some)
      | _ => false)
    | none => false)
  | _ => false
theorem strs_vals : ∀ (vs : List Value) (zs : List Str), vs.map (fun v => match v with | .str z _ => some z | _ => none) = zs.map some → Vals (zs.map V.str) vs
  | [], [], _ => .nil
  | [], _ :: _, h => by cases h
  | _ :: _, [], h => by cases h
  | v :: vs, z :: zs, h => by
    rw [List.map_cons, List.map_cons] at h
    injection h with h1 h2
    cases v with
    | str y t =>
      have e : y = z := Option.some.inj h1
      subst e
      exact .cons ⟨t, rfl⟩ (strs_vals vs zs h2)
    | _ => cases h1
theorem glo_tup {P : Program} {w : World} {K : PySem.W.Frag} {mg : Str → Option Value} {base h : Heap} {x : Str} {zs : List Str} (X : K.In h) (G : h.Ns mainGlobals mg) (c : tupK K x zs = true) (hz : (zs.all fun z => decide (z.length ≤ 1000)) = true) (hl : zs.length ≤ 1000) :
    GloOk ⟨P, w, K, mg, base⟩ x (.tup (zs.map .str)) := by
  unfold tupK at c
  split at c
  · rename_i a e
    split at c
    · rename_i o ho
      rw [Bool.and_eq_true, Bool.and_eq_true] at c
      obtain ⟨⟨c1, c2⟩, c3⟩ := c
      split at c3
      · rename_i its n hd
        have v := strs_vals _ _ (of_decide_eq_true c3)
        refine ⟨.ref a, .ref a, PySem.W.mg_of X G e, rfl, fun W => .tup (.inr ⟨o, its, n, ho, of_decide_eq_true c1, of_decide_eq_true c2, hd, ?_, v⟩) ?_⟩
        · have := v.length
          rw [List.length_map] at this
          have h2 : its.toList.length = its.size := Array.length_toList
          rw [sizeLine_eq]
          omega
        · clear v c3 hl
          induction zs with
          | nil => exact .nil
          | cons z zs ih =>
            rw [List.all_cons, Bool.and_eq_true] at hz
            refine .cons (.str z ?_) (ih hz.2)
            have := of_decide_eq_true hz.1
            rw [sizeLine_eq]
            omega
      · cases c3
    · cases c
  · cases c
section
variable {P : Program} {w : World} {K : PySem.W.Frag} {mg : Str → Option Value} {base h : Heap} {fa : List He.Fa} {fn : List He.DefD}
theorem glo_int {x : Str} {i : Int} (X : K.In h) (G : h.Ns mainGlobals mg) (c : He.SaysD fa fn K) (j : Nat) (e : fa[j]? = some (.int x i)) : GloOk ⟨P, w, K, mg, base⟩ x (.int i) := by
  obtain ⟨t, ht⟩ := He.int_ok X G (c.fact j e)
  exact ⟨_, .int i, ht, ⟨t, rfl⟩, fun W => .int i⟩
theorem glo_str {x z : Str} (hz : z.length ≤ 1000) (X : K.In h) (G : h.Ns mainGlobals mg) (c : He.SaysD fa fn K) (j : Nat) (e : fa[j]? = some (.str x z)) : GloOk ⟨P, w, K, mg, base⟩ x (.str z) := by
  obtain ⟨t, ht⟩ := He.str_ok X G (c.fact j e)
  exact ⟨_, .str z, ht, ⟨t, rfl⟩, fun W => .str z (by rw [sizeLine_eq]; omega)⟩
theorem boots_of (X : K.In h) (G : h.Ns mainGlobals mg) (c : He.SaysD fa fn K) (e : (bootN.all fun x => fa.any fun f => match f with | .free y => decide (x = y) | _ => false) = true) : Boots mg := fun x hx => by
  have q := List.all_eq_true.mp e x hx
  rw [List.any_eq_true] at q
  obtain ⟨f, hf, q⟩ := q
  split at q
  · rename_i y
    obtain rfl := of_decide_eq_true q
    obtain ⟨j, hj, e⟩ := List.mem_iff_getElem.mp hf
    exact He.free_ok X G (c.fact j (by rw [List.getElem?_eq_getElem hj, e]))
  · cases q
theorem exc_fact {x : Str} (X : K.In h) (G : h.Ns mainGlobals mg) (c : He.SaysD fa fn K) (i j : Nat) (e1 : fa[i]? = some (.glo x)) (e2 : fa[j]? = some (.exc x)) : ExcFact ⟨P, w, K, mg, base⟩ x := by
  obtain ⟨h1, h2, h3, h4⟩ := He.exc_ok (c.fact j e2)
  exact ⟨_, He.glo_ok X G (c.fact i e1), h1, h2, h3, h4⟩
theorem fact_at {f : Str} {params : Arguments} {body : List Stmt} {scope : Scope} {N ps : List Str} {s : Sm} {k : Nat} {F : Fn} (X : K.In h) (G : h.Ns mainGlobals mg) (c : He.SaysD fa fn K) (hb : Boots mg) (i j : Nat)
    (hfn : fn[i]? = some ⟨(f, none), f, f, params, body, scope, [], []⟩) (hfa : fa[j]? = some (.glo f)) (hs : C8.scC N ps scope = true)
    (hbind : ∀ (kV doc pm : Value) (an : Option Addr) (cdv ct : Value) (us : List Value), us.length = ps.length → bindArgs (PySem.W.fnOf f f params body scope .none kV doc pm an cdv ct) ⟨us, []⟩ = pure (ps.zip us))
    (hc : chkS N scope F.own s body = true) (hn : NeedS ⟨P, w, K, mg, base⟩ k s) (hF : Body F ps.length N.length s) : FnFact ⟨P, w, K, mg, base⟩ (k + 1) f F := by
  obtain ⟨fd, FD⟩ := c.def_ i hfn
  exact fact_of (He.glo_ok X G (c.fact j hfa)) FD hs hbind hc hb hn hF
end
end Vr

/-! Terms and statements computed: what draws nothing. -/
namespace Vr
open PySem PySem.Spec PyProof.Rows L2

def lcX (turn : Dt → Option (Option Dt)) : List Dt → Option (List Dt)
  | [] => some []
  | x :: xs => match turn x with
    | none => none
    | some none => lcX turn xs
    | some (some d) => (lcX turn xs).map (d :: ·)
def llX (turn : Dt → Option (List Dt)) : List Dt → Option (List Dt)
  | [] => some []
  | x :: xs => (turn x).bind fun a => (llX turn xs).map (a ++ ·)
def xe : Ex → Ev → Option Dt
  | .nil, _ => some (.tup [])
  | .cons a b, ρ => (xe a ρ).bind fun d => match xe b ρ with
    | some (.tup ds) => some (.tup (d :: ds))
    | _ => none
  | .var i, ρ => match ρ[i]? with
    | some (.sh d) => some d
    | _ => none
  | .bor i, ρ => match ρ[i]? with
    | some (.sh d) => some d
    | some (.ow ds) => some (.lst ds)
    | _ => none
  | .con c, _ => conD c
  | .glo _ d, _ => some d
  | .tup es, ρ => match xe es ρ with
    | some (.tup ds) => if ds.length ≤ sizeLine then some (.tup ds) else none
    | _ => none
  | .lst es, ρ => match xe es ρ with
    | some (.tup ds) => if ds.length ≤ sizeLine then some (.lst ds) else none
    | _ => none
  | .bin o a b, ρ => (xe a ρ).bind fun x => (xe b ρ).bind fun y => binD o x y
  | .neg a, ρ => match xe a ρ with
    | some (.int i) => some (.int (-i))
    | _ => none
  | .cmp o a b, ρ => (xe a ρ).bind fun x => (xe b ρ).bind fun y => (cmpD o x y).map .bl
  | .chn o o' a b c, ρ => (xe a ρ).bind fun x => (xe b ρ).bind fun y => match cmpD o x y with
    | some true => (xe c ρ).bind fun z => (cmpD o' y z).map .bl
    | some false => some (.bl false)
    | none => none
  | .and a b, ρ => (xe a ρ).bind fun x => match tru x with
    | some true => xe b ρ
    | some false => some x
    | none => none
  | .or a b, ρ => (xe a ρ).bind fun x => match tru x with
    | some true => some x
    | some false => xe b ρ
    | none => none
  | .not a, ρ => (xe a ρ).bind fun x => (tru x).map fun k => .bl (!k)
  | .ite t a b, ρ => (xe t ρ).bind fun x => match tru x with
    | some true => xe a ρ
    | some false => xe b ρ
    | none => none
  | .idx a b, ρ => (xe a ρ).bind fun x => (xe b ρ).bind fun y => idxD x y
  | .slc a lo hi, ρ => (xe a ρ).bind fun x => (xe lo ρ).bind fun l => (endD lo.no l).bind fun l => (xe hi ρ).bind fun h => (endD hi.no h).bind fun h => slcD x l h
  | .call _ F es, ρ => match xe es ρ with
    | some (.tup ds) => F.ex ds
    | _ => none
  | .blt b a, ρ => (xe a ρ).bind fun x => bltD b x
  | .isi ts a, ρ => (xe a ρ).bind fun x => (isiD ts x).map .bl
  | .mth m a b, ρ => (xe a ρ).bind fun x => if recv m x then (xe b ρ).bind fun y => mthD m x y else none
  | .lc own pt src tst elt, ρ => (xe src ρ).bind fun d => (items d).bind fun ds =>
      match lcX (fun x => (bindP pt x (wipeE ρ (own.map (·.2)))).bind fun ρ' => (xe tst ρ').bind fun t => match tru t with
        | some true => (xe elt ρ').map some
        | some false => some none
        | none => none) ds with
      | some acc => if acc.length ≤ sizeLine then some (.lst acc) else none
      | none => none
  | .enu a, ρ => (xe a ρ).bind fun d => (enuS d).map .lst
  | .zip a b, ρ => (xe a ρ).bind fun x => (xe b ρ).bind fun y => (zipS x y).map .lst
  | .rng a, ρ => match xe a ρ with
    | some (.int n) => if n < 2 ^ 62 ∧ -(2 ^ 62) ≤ n then some (.lst ((List.range n.toNat).map fun i => .int (i : Nat))) else none
    | _ => none
  | .hix _ _, _ => none
  | .srs a, ρ => (xe a ρ).bind srsD
  | .callb _ F es, ρ => match xe es ρ with
    | some (.tup ds) => cbD F ds
    | _ => none
  | .fld _ _ _, _ => none
  | .ob _ _ _ _, _ => none
  | .mk _ _ _, _ => none
  | .inob _ _ _ _, _ => none
  | .isc _ _, _ => none
  | .dnew, _ => none
  | .din _ _, _ => none
  | .dget _ _, _ => none
  | .dkeys _, _ => none
  | .rev a, ρ => (xe a ρ).bind revD
  | .lc2 own pt src tst js pt1 src1 tst1 elt, ρ => (xe src ρ).bind fun d => (items d).bind fun ds =>
      match llX (fun x => (bindP pt x (wipeE (noOw ρ) (own.map (·.2)))).bind fun ρ' => (xe tst ρ').bind fun t => match tru t with
        | some true => (xe src1 ρ').bind fun d1 => (items d1).bind fun es => lcX (fun y => (bindP pt1 y (wipeE ρ' js)).bind fun ρ2 => (xe tst1 ρ2).bind fun t1 => match tru t1 with
          | some true => (xe elt ρ2).map some
          | some false => some none
          | none => none) es
        | some false => some []
        | none => none) ds with
      | some acc => if acc.length ≤ sizeLine then some (.lst acc) else none
      | none => none
theorem bind_some {α β : Type} {x : Option α} {f : α → Option β} {b : β} (h : x.bind f = some b) : ∃ a, x = some a ∧ f a = some b := by
  cases x with
  | none => cases h
  | some a => exact ⟨a, rfl, h⟩
theorem map_some' {α β : Type} {x : Option α} {f : α → β} {b : β} (h : x.map f = some b) : ∃ a, x = some a ∧ f a = b := by
  cases x with
  | none => cases h
  | some a => exact ⟨a, rfl, Option.some.inj h⟩
theorem lcX_ok {turn : Dt → Store → (Option Dt → Store → Prop) → Prop} {f : Dt → Option (Option Dt)} {S : Store} (hf : ∀ x r k, f x = some r → k r S → turn x S k) : ∀ (xs acc out : List Dt) (Q : List Dt → Store → Prop), lcX f xs = some out → (acc ++ out).length ≤ sizeLine → Q (acc ++ out) S → wpLc turn xs acc S Q
  | [], acc, out, Q, h, hl, q => by
    cases h
    rw [List.append_nil] at q
    exact q
  | x :: xs, acc, out, Q, h, hl, q => by
    unfold lcX at h
    split at h
    · cases h
    · rename_i e
      exact hf x _ _ e (lcX_ok hf xs acc out Q h hl q)
    · rename_i d e
      obtain ⟨o, h1, rfl⟩ := map_some' h
      refine hf x _ _ e ⟨?_, lcX_ok hf xs (acc ++ [d]) o Q h1 (by simpa using hl) (by simpa using q)⟩
      rw [List.length_append, List.length_cons] at hl
      omega
theorem llX_ok {turn : Dt → List Dt → Store → (List Dt → Store → Prop) → Prop} {f : Dt → Option (List Dt)} {S : Store} (hf : ∀ x r acc k, f x = some r → (acc ++ r).length ≤ sizeLine → k (acc ++ r) S → turn x acc S k) : ∀ (xs acc out : List Dt) (Q : List Dt → Store → Prop), llX f xs = some out → (acc ++ out).length ≤ sizeLine → Q (acc ++ out) S → wpLL turn xs acc S Q
  | [], acc, out, Q, h, hl, q => by
    cases h
    rw [List.append_nil] at q
    exact q
  | x :: xs, acc, out, Q, h, hl, q => by
    obtain ⟨a, h1, h⟩ := bind_some h
    obtain ⟨o, h2, rfl⟩ := map_some' h
    refine hf x a acc _ h1 ?_ (llX_ok hf xs (acc ++ a) o Q h2 (by simpa using hl) (by simpa using q))
    simp only [List.length_append] at hl ⊢
    omega
theorem xe_ok : ∀ (e : Ex) (R : XR) (ρ : Ev) (S : Store) (Q : DK) (d : Dt), xe e ρ = some d → Q d S → wp e R ρ S Q := by
  intro e
  induction e with
  | nil => intro R ρ S Q d h q; cases h; exact q
  | cons a b iha ihb =>
    intro R ρ S Q d h q
    obtain ⟨x, h1, h⟩ := bind_some h
    split at h
    · rename_i ds h2
      cases h
      exact iha R ρ S _ x h1 (ihb R ρ S _ _ h2 q)
    · cases h
  | var i =>
    intro R ρ S Q d h q
    unfold xe at h
    unfold wp
    split at h
    · rename_i e
      cases h
      try rw [e]
      exact q
    · cases h
  | bor i =>
    intro R ρ S Q d h q
    unfold xe at h
    unfold wp
    split at h
    · rename_i e
      cases h
      try rw [e]
      exact q
    · rename_i e
      cases h
      try rw [e]
      exact q
    · cases h
  | con c =>
    intro R ρ S Q d h q
    have h' : conD c = some d := h
    show opt (conD c) _
    rw [h']
    exact q
  | glo x d' => intro R ρ S Q d h q; cases h; exact q
  | tup es ih =>
    intro R ρ S Q d h q
    unfold xe at h
    split at h
    · rename_i ds e
      split at h
      · rename_i hl
        cases h
        exact ih R ρ S _ _ e ⟨hl, q⟩
      · cases h
    · cases h
  | lst es ih =>
    intro R ρ S Q d h q
    unfold xe at h
    split at h
    · rename_i ds e
      split at h
      · rename_i hl
        cases h
        exact ih R ρ S _ _ e ⟨hl, q⟩
      · cases h
    · cases h
  | bin o a b iha ihb =>
    intro R ρ S Q d h q
    obtain ⟨x, h1, h⟩ := bind_some h
    obtain ⟨y, h2, h⟩ := bind_some h
    refine iha R ρ S _ x h1 (ihb R ρ S _ y h2 ?_)
    rw [h]
    exact q
  | neg a ih =>
    intro R ρ S Q d h q
    unfold xe at h
    split at h
    · rename_i i e
      cases h
      exact ih R ρ S _ _ e q
    · cases h
  | cmp o a b iha ihb =>
    intro R ρ S Q d h q
    obtain ⟨x, h1, h⟩ := bind_some h
    obtain ⟨y, h2, h⟩ := bind_some h
    obtain ⟨k, h3, rfl⟩ := map_some' h
    refine iha R ρ S _ x h1 (ihb R ρ S _ y h2 ?_)
    rw [h3]
    exact q
  | chn o o' a b c iha ihb ihc =>
    intro R ρ S Q d h q
    obtain ⟨x, h1, h⟩ := bind_some h
    obtain ⟨y, h2, h⟩ := bind_some h
    refine iha R ρ S _ x h1 (ihb R ρ S _ y h2 ?_)
    split at h
    · rename_i e
      obtain ⟨z, h3, h⟩ := bind_some h
      obtain ⟨k, h4, rfl⟩ := map_some' h
      rw [e]
      refine ihc R ρ S _ z h3 ?_
      rw [h4]
      exact q
    · rename_i e
      cases h
      rw [e]
      exact q
    · cases h
  | and a b iha ihb =>
    intro R ρ S Q d h q
    obtain ⟨x, h1, h⟩ := bind_some h
    refine iha R ρ S _ x h1 ?_
    split at h
    · rename_i e
      rw [e]
      exact ihb R ρ S _ d h q
    · rename_i e
      cases h
      rw [e]
      exact q
    · cases h
  | or a b iha ihb =>
    intro R ρ S Q d h q
    obtain ⟨x, h1, h⟩ := bind_some h
    refine iha R ρ S _ x h1 ?_
    split at h
    · rename_i e
      cases h
      rw [e]
      exact q
    · rename_i e
      rw [e]
      exact ihb R ρ S _ d h q
    · cases h
  | not a ih =>
    intro R ρ S Q d h q
    obtain ⟨x, h1, h⟩ := bind_some h
    obtain ⟨k, h2, rfl⟩ := map_some' h
    refine ih R ρ S _ x h1 ?_
    rw [h2]
    exact q
  | ite t a b iht iha ihb =>
    intro R ρ S Q d h q
    obtain ⟨x, h1, h⟩ := bind_some h
    refine iht R ρ S _ x h1 ?_
    split at h
    · rename_i e
      rw [e]
      exact iha R ρ S _ d h q
    · rename_i e
      rw [e]
      exact ihb R ρ S _ d h q
    · cases h
  | idx a b iha ihb =>
    intro R ρ S Q d h q
    obtain ⟨x, h1, h⟩ := bind_some h
    obtain ⟨y, h2, h⟩ := bind_some h
    refine iha R ρ S _ x h1 (ihb R ρ S _ y h2 ?_)
    rw [h]
    exact q
  | slc a lo hi iha ihl ihh =>
    intro R ρ S Q d h q
    obtain ⟨x, h1, h⟩ := bind_some h
    obtain ⟨l, h2, h⟩ := bind_some h
    obtain ⟨l', h3, h⟩ := bind_some h
    obtain ⟨u, h4, h⟩ := bind_some h
    obtain ⟨u', h5, h⟩ := bind_some h
    refine iha R ρ S _ x h1 (ihl R ρ S _ l h2 ?_)
    rw [h3]
    refine ihh R ρ S _ u h4 ?_
    rw [h5]
    show opt (slcD x l' u') _
    rw [h]
    exact q
  | call f F es ih =>
    intro R ρ S Q d h q
    unfold xe at h
    split at h
    · rename_i ds e
      exact ih R ρ S _ _ e (F.ok _ _ _ _ _ h q)
    · cases h
  | blt b a ih =>
    intro R ρ S Q d h q
    obtain ⟨x, h1, h⟩ := bind_some h
    refine ih R ρ S _ x h1 ?_
    rw [h]
    exact q
  | isi ts a ih =>
    intro R ρ S Q d h q
    obtain ⟨x, h1, h⟩ := bind_some h
    obtain ⟨k, h2, rfl⟩ := map_some' h
    refine ih R ρ S _ x h1 ?_
    rw [h2]
    exact q
  | mth m a b iha ihb =>
    intro R ρ S Q d h q
    obtain ⟨x, h1, h⟩ := bind_some h
    split at h
    · rename_i hr
      obtain ⟨y, h2, h⟩ := bind_some h
      refine iha R ρ S _ x h1 ⟨hr, ihb R ρ S _ y h2 ?_⟩
      rw [h]
      exact q
    · cases h
  | lc own pt src tst elt ihs iht ihe =>
    intro R ρ S Q d h q
    obtain ⟨x, h1, h⟩ := bind_some h
    obtain ⟨ds, h2, h⟩ := bind_some h
    refine ihs R ρ S _ x h1 ?_
    rw [h2]
    split at h
    · rename_i acc e
      split at h
      · rename_i hl
        cases h
        refine lcX_ok (fun x r k hx hk => ?_) ds [] acc _ e hl q
        obtain ⟨ρ', e1, hx⟩ := bind_some hx
        obtain ⟨t, e2, hx⟩ := bind_some hx
        rw [e1]
        refine iht _ ρ' S _ t e2 ?_
        split at hx
        · rename_i e3
          obtain ⟨d', e4, rfl⟩ := map_some' hx
          rw [e3]
          exact ihe _ ρ' S _ d' e4 hk
        · rename_i e3
          cases hx
          rw [e3]
          exact hk
        · cases hx
      · cases h
    · cases h
  | enu a ih =>
    intro R ρ S Q d h q
    obtain ⟨x, h1, h⟩ := bind_some h
    obtain ⟨k, h2, rfl⟩ := map_some' h
    refine ih R ρ S _ x h1 ?_
    rw [h2]
    exact q
  | zip a b iha ihb =>
    intro R ρ S Q d h q
    obtain ⟨x, h1, h⟩ := bind_some h
    obtain ⟨y, h2, h⟩ := bind_some h
    obtain ⟨k, h3, rfl⟩ := map_some' h
    refine iha R ρ S _ x h1 (ihb R ρ S _ y h2 ?_)
    rw [h3]
    exact q
  | rng a ih =>
    intro R ρ S Q d h q
    unfold xe at h
    split at h
    · rename_i n e
      split at h
      · rename_i hc
        cases h
        refine ih R ρ S _ _ e ?_
        dsimp only
        rw [if_pos hc]
        exact q
      · cases h
    · cases h
  | hix i j => intro R ρ S Q d h q; cases h
  | srs a ih =>
    intro R ρ S Q d h q
    obtain ⟨x, h1, h⟩ := bind_some h
    refine ih R ρ S _ x h1 ?_
    rw [h]
    exact q
  | callb f F es ih =>
    intro R ρ S Q d h q
    unfold xe at h
    split at h
    · rename_i ds e
      refine ih R ρ S _ _ e ?_
      dsimp only
      rw [h]
      exact q
    · cases h
  | fld _ _ _ _ => intro R ρ S Q d h q; cases h
  | ob _ _ _ _ _ _ => intro R ρ S Q d h q; cases h
  | mk _ _ _ _ => intro R ρ S Q d h q; cases h
  | inob _ _ _ _ _ _ => intro R ρ S Q d h q; cases h
  | isc _ _ _ => intro R ρ S Q d h q; cases h
  | dnew => intro R ρ S Q d h q; cases h
  | din _ _ _ _ => intro R ρ S Q d h q; cases h
  | dget _ _ _ _ => intro R ρ S Q d h q; cases h
  | dkeys _ _ => intro R ρ S Q d h q; cases h
  | rev a ih =>
    intro R ρ S Q d h q
    obtain ⟨x, h1, h⟩ := bind_some h
    refine ih R ρ S _ x h1 ?_
    rw [h]
    exact q
  | lc2 own pt src tst js pt1 src1 tst1 elt ihs iht ihs1 iht1 ihe =>
    intro R ρ S Q d h q
    obtain ⟨x, h1, h⟩ := bind_some h
    obtain ⟨ds, h2, h⟩ := bind_some h
    refine ihs R ρ S _ x h1 ?_
    rw [h2]
    split at h
    · rename_i acc e
      split at h
      · rename_i hl
        cases h
        refine llX_ok (fun x r a k hx hlen hk => ?_) ds [] acc _ e hl q
        obtain ⟨ρ', e1, hx⟩ := bind_some hx
        obtain ⟨t, e2, hx⟩ := bind_some hx
        rw [e1]
        refine iht _ ρ' S _ t e2 ?_
        split at hx
        · rename_i e3
          rw [e3]
          obtain ⟨d1, e4, hx⟩ := bind_some hx
          obtain ⟨es, e5, hx⟩ := bind_some hx
          refine ihs1 _ ρ' S _ d1 e4 ?_
          rw [e5]
          refine lcX_ok (fun y r k1 hy hk1 => ?_) es a r k hx hlen hk
          obtain ⟨ρ2, e6, hy⟩ := bind_some hy
          obtain ⟨t1, e7, hy⟩ := bind_some hy
          rw [e6]
          refine iht1 _ ρ2 S _ t1 e7 ?_
          split at hy
          · rename_i e8
            obtain ⟨d', e9, rfl⟩ := map_some' hy
            rw [e8]
            exact ihe _ ρ2 S _ d' e9 hk1
          · rename_i e8
            cases hy
            rw [e8]
            exact hk1
          · cases hy
        · rename_i e3
          cases hx
          rw [e3]
          rw [List.append_nil] at hk
          exact hk
        · cases hx
      · cases h
    · cases h

/-! ### statements -/
/-- where a piece of code ends -/
inductive Fl where
  | nx (ρ : Ev) | rt (d : Dt)
def forX (pt : Pt) (body : Ev → Option Fl) : List Dt → Ev → Option Fl
  | [], ρ => some (.nx ρ)
  | d :: ds, ρ => (bindP pt d ρ).bind fun ρ' => match body ρ' with
    | some (.nx ρ'') => forX pt body ds ρ''
    | r => r
def xs : Sm → Ev → Option Fl
  | .skip, ρ => some (.nx ρ)
  | .seq a b, ρ => match xs a ρ with
    | some (.nx ρ') => xs b ρ'
    | r => r
  | .asg i e, ρ => (xe e ρ).map fun d => .nx (ρ.set i (.sh d))
  | .own i e, ρ => (xe e ρ).bind fun d => (slotOf true d).map fun s => .nx (ρ.set i s)
  | .par i j oi oj a b, ρ => (xe a ρ).bind fun x => (xe b ρ).bind fun y => (slotOf oi x).bind fun s => (slotOf oj y).map fun t => .nx ((ρ.set i s).set j t)
  | .par3 i j l oi oj ol a b c, ρ => (xe a ρ).bind fun x => (xe b ρ).bind fun y => (xe c ρ).bind fun z => (slotOf oi x).bind fun s => (slotOf oj y).bind fun t => (slotOf ol z).map fun u => .nx (((ρ.set i s).set j t).set l u)
  | .unp is e, ρ => (xe e ρ).bind fun d => (bindP (.many is) d ρ).map .nx
  | .ite t a b, ρ => (xe t ρ).bind fun x => match tru x with
    | some true => xs a ρ
    | some false => xs b ρ
    | none => none
  | .for_ pt src body, ρ => (xe src ρ).bind fun d => (items d).bind fun ds => forX pt (xs body) ds ρ
  | .whl _ _, _ => none
  | .ret e, ρ => (xe e ρ).map .rt
  | .reto i, ρ => match ρ[i]? with
    | some (.ow ds) => some (.rt (.lst ds))
    | _ => none
  | .retn, _ => some (.rt .non)
  | .exp e, ρ => (xe e ρ).map fun _ => .nx ρ
  | .app i e, ρ => match ρ[i]? with
    | some (.ow ds) => (xe e ρ).bind fun d => if ds.length < sizeLine then some (.nx (ρ.set i (.ow (ds ++ [d])))) else none
    | _ => none
  | .xtd i e, ρ => match ρ[i]? with
    | some (.ow ds) => (xe e ρ).bind fun d => match d with
      | .lst es => if ds.length + es.length ≤ sizeLine then some (.nx (ρ.set i (.ow (ds ++ es)))) else none
      | _ => none
    | _ => none
  | .sti i k e, ρ => match ρ[i]? with
    | some (.ow ds) => (xe e ρ).bind fun d => (xe k ρ).bind fun j => match j with
      | .int j => (ixN ds.length j).map fun j => .nx (ρ.set i (.ow (ds.set j d)))
      | _ => none
    | _ => none
  | .shr i, ρ => match ρ[i]? with
    | some (.ow ds) => some (.nx (ρ.set i (.sh (.lst ds))))
    | _ => some (.nx ρ)
  | .rse _, _ => none
  | .fail, _ => none
  | .hst _ _ _, _ => none
  | .fset _ _ _ _, _ => none
  | .utg _ _, _ => none
  | .oset _ _ _ _ _, _ => none
  | .oaug _ _ _ _, _ => none
  | .fob _ _ _, _ => none
  | .dpop _ _ _ _, _ => none
  | .pops i, ρ => match ρ[i]? with
    | some (.ow ds) => ds.getLast?.map fun _ => .nx (ρ.set i (.ow ds.dropLast))
    | _ => none
  | .popa j i, ρ => match ρ[i]? with
    | some (.ow ds) => ds.getLast?.map fun d => .nx ((ρ.set i (.ow ds.dropLast)).set j (.sh d))
    | _ => none
  | .upop is _ F es i, ρ => match xe es ρ, ρ[i]? with
    | some (.tup ds), some (.ow (p :: ps)) => (F.ex (ds ++ [p])).bind fun d => (bindP (.many is) d (ρ.set i (.ow ps))).map .nx
    | _, _ => none
def FlOk (D : Ed) (S : Store) : Fl → Prop
  | .nx ρ => D.nx ρ S
  | .rt d => D.rt d S
theorem forX_ok {pt : Pt} {body : Ev → Option Fl} {wb : Ev → Store → (Ev → Store → Prop) → Prop} {S : Store} {rt : DK} (hb : ∀ ρ r k, body ρ = some r → FlOk ⟨k, rt⟩ S r → wb ρ S k) : ∀ (ds : List Dt) (ρ : Ev) (r : Fl) (k : Ev → Store → Prop), forX pt body ds ρ = some r → FlOk ⟨k, rt⟩ S r → wfor pt wb ds ρ S k
  | [], ρ, r, k, h, q => by cases h; exact q
  | d :: ds, ρ, r, k, h, q => by
    obtain ⟨ρ', e, h⟩ := bind_some h
    show opt (bindP pt d ρ) _
    rw [e]
    split at h
    · rename_i ρ'' e2
      exact hb ρ' _ _ e2 (forX_ok hb ds ρ'' r k h q)
    · rename_i e2
      cases r with
      | nx ρ3 => exact absurd h (e2 ρ3)
      | rt d' => exact hb ρ' _ _ h q
theorem xs_ok : ∀ (s : Sm) (R : XR) (ρ : Ev) (S : Store) (D : Ed) (r : Fl), xs s ρ = some r → FlOk D S r → wps s R ρ S D := by
  intro s
  induction s with
  | skip => intro R ρ S D r h q; cases h; exact q
  | seq a b iha ihb =>
    intro R ρ S D r h q
    unfold xs at h
    split at h
    · rename_i ρ' e
      exact iha R ρ S _ _ e (ihb R ρ' S D r h q)
    · rename_i e
      cases r with
      | nx ρ3 => exact absurd h (e ρ3)
      | rt d => exact iha R ρ S _ _ h q
  | asg i e =>
    intro R ρ S D r h q
    obtain ⟨d, h1, rfl⟩ := map_some' h
    exact xe_ok e R ρ S _ d h1 q
  | own i e =>
    intro R ρ S D r h q
    obtain ⟨d, h1, h⟩ := bind_some h
    obtain ⟨s, h2, rfl⟩ := map_some' h
    refine xe_ok e R ρ S _ d h1 ?_
    rw [h2]
    exact q
  | par i j oi oj a b =>
    intro R ρ S D r h q
    obtain ⟨x, h1, h⟩ := bind_some h
    obtain ⟨y, h2, h⟩ := bind_some h
    obtain ⟨s, h3, h⟩ := bind_some h
    obtain ⟨t, h4, rfl⟩ := map_some' h
    refine xe_ok a R ρ S _ x h1 (xe_ok b R ρ S _ y h2 ?_)
    rw [h3, opt_some, h4]
    exact q
  | par3 i j l oi oj ol a b c =>
    intro R ρ S D r h q
    obtain ⟨x, h1, h⟩ := bind_some h
    obtain ⟨y, h2, h⟩ := bind_some h
    obtain ⟨z, h5, h⟩ := bind_some h
    obtain ⟨s, h3, h⟩ := bind_some h
    obtain ⟨t, h4, h⟩ := bind_some h
    obtain ⟨u, h6, rfl⟩ := map_some' h
    refine xe_ok a R ρ S _ x h1 (xe_ok b R ρ S _ y h2 (xe_ok c R ρ S _ z h5 ?_))
    rw [h3, opt_some, h4, opt_some, h6]
    exact q
  | unp is e =>
    intro R ρ S D r h q
    obtain ⟨d, h1, h⟩ := bind_some h
    obtain ⟨ρ', h2, rfl⟩ := map_some' h
    refine xe_ok e R ρ S _ d h1 ?_
    rw [h2]
    exact q
  | ite t a b iha ihb =>
    intro R ρ S D r h q
    obtain ⟨x, h1, h⟩ := bind_some h
    refine xe_ok t R ρ S _ x h1 ?_
    split at h
    · rename_i e
      rw [e]
      exact iha R ρ S D r h q
    · rename_i e
      rw [e]
      exact ihb R ρ S D r h q
    · cases h
  | for_ pt src body ih =>
    intro R ρ S D r h q
    obtain ⟨d, h1, h⟩ := bind_some h
    obtain ⟨ds, h2, h⟩ := bind_some h
    refine xe_ok src R ρ S _ d h1 ?_
    rw [h2]
    refine forX_ok (rt := D.rt) (fun ρ r k hb hk => ih R ρ S _ r hb ?_) ds ρ r D.nx h ?_
    · cases r <;> exact hk
    · cases r <;> exact q
  | whl t b ih => intro R ρ S D r h q; cases h
  | ret e =>
    intro R ρ S D r h q
    obtain ⟨d, h1, rfl⟩ := map_some' h
    exact xe_ok e R ρ S _ d h1 q
  | reto i =>
    intro R ρ S D r h q
    unfold xs at h
    unfold wps
    split at h
    · rename_i e
      cases h
      try rw [e]
      exact q
    · cases h
  | retn => intro R ρ S D r h q; cases h; exact q
  | exp e =>
    intro R ρ S D r h q
    obtain ⟨d, h1, rfl⟩ := map_some' h
    exact xe_ok e R ρ S _ d h1 q
  | app i e =>
    intro R ρ S D r h q
    unfold xs at h
    unfold wps
    split at h
    · rename_i ds e1
      obtain ⟨d, h1, h⟩ := bind_some h
      try rw [e1]
      split at h
      · rename_i hl
        cases h
        exact xe_ok e R ρ S _ d h1 ⟨hl, q⟩
      · cases h
    · cases h
  | xtd i e =>
    intro R ρ S D r h q
    unfold xs at h
    unfold wps
    split at h
    · rename_i ds e1
      obtain ⟨d, h1, h⟩ := bind_some h
      try rw [e1]
      refine xe_ok e R ρ S _ d h1 ?_
      cases d with
      | lst es =>
        dsimp only at h ⊢
        split at h
        · rename_i hl
          cases h
          exact ⟨hl, q⟩
        · cases h
      | _ => cases h
    · cases h
  | sti i k e =>
    intro R ρ S D r h q
    unfold xs at h
    unfold wps
    split at h
    · rename_i ds e1
      obtain ⟨d, h1, h⟩ := bind_some h
      obtain ⟨j, h2, h⟩ := bind_some h
      try rw [e1]
      refine xe_ok e R ρ S _ d h1 (xe_ok k R ρ S _ j h2 ?_)
      cases j with
      | int j =>
        obtain ⟨n, h3, rfl⟩ := map_some' h
        show opt (ixN ds.length j) _
        rw [h3]
        exact q
      | _ => cases h
    · cases h
  | shr i =>
    intro R ρ S D r h q
    unfold xs at h
    unfold wps
    split at h
    · rename_i e
      cases h
      try rw [e]
      exact q
    · rename_i e
      cases h
      first
        | exact q
        | (split
           · rename_i ds e2
             exact absurd e2 (e ds)
           · exact q)
  | rse x => intro R ρ S D r h q; cases h
  | fail => intro R ρ S D r h q; cases h
  | hst i j e => intro R ρ S D r h q; cases h
  | fset _ _ _ _ => intro R ρ S D r h q; cases h
  | utg _ _ => intro R ρ S D r h q; cases h
  | oset _ _ _ _ _ => intro R ρ S D r h q; cases h
  | oaug _ _ _ _ => intro R ρ S D r h q; cases h
  | fob _ _ _ => intro R ρ S D r h q; cases h
  | dpop _ _ _ _ => intro R ρ S D r h q; cases h
  | pops i =>
    intro R ρ S D r h q
    unfold xs at h
    unfold wps
    split at h
    · rename_i ds e1
      obtain ⟨d, h1, rfl⟩ := map_some' h
      try rw [e1]
      try dsimp only
      rw [h1]
      exact q
    · cases h
  | popa j i =>
    intro R ρ S D r h q
    unfold xs at h
    unfold wps
    split at h
    · rename_i ds e1
      obtain ⟨d, h1, rfl⟩ := map_some' h
      try rw [e1]
      try dsimp only
      rw [h1]
      exact q
    · cases h
  | upop is f F es i =>
    intro R ρ S D r h q
    unfold xs at h
    split at h
    · rename_i ds p ps e1 e2
      obtain ⟨d, h1, h⟩ := bind_some h
      obtain ⟨ρ', h2, rfl⟩ := map_some' h
      refine xe_ok es R ρ S _ _ e1 ?_
      try dsimp only
      try rw [e2]
      try dsimp only
      refine F.ok _ _ _ _ _ h1 ?_
      rw [h2]
      exact q
    · cases h
/-- a def of n parameters and m names, computed -/
def exF (n m : Nat) (s : Sm) (ds : List Dt) : Option Dt := if ds.length = n then (match xs s (ev0 m ds) with
  | some (.nx _) => some .non
  | some (.rt d) => some d
  | none => none) else none
def Fn.ofX (own : Bool) (n m : Nat) (s : Sm) : Fn := Fn.pure own (exF n m s)
theorem body_ofX {own : Bool} {n m : Nat} {s : Sm} : Body (Fn.ofX own n m s) n m s := by
  intro ds S Q R h
  obtain ⟨d, h1, q⟩ := opt_eq (x := exF n m s ds) h
  unfold exF at h1
  split at h1
  · rename_i hl
    refine ⟨hl, ?_⟩
    split at h1
    · rename_i ρ e
      cases h1
      exact xs_ok s R _ S _ _ e ⟨S, Sle.refl S, q⟩
    · rename_i d' e
      cases h1
      exact xs_ok s R _ S _ _ e ⟨S, Sle.refl S, q⟩
    · cases h1
  · cases h1
end Vr

/-! Decks: how they are made, what is drawn; simp rules of the terms. -/
namespace Vr
open PySem PySem.Spec PyProof.Rows L2

section
variable {R : XR} {ρ : Ev} {S : Store} {Q : DK} {D : Ed} {a b c e : Ex} {s s2 : Sm} {i j : Nat}
@[simp] theorem wp_nil : wp .nil R ρ S Q = Q (.tup []) S := rfl
@[simp] theorem wp_cons : wp (.cons a b) R ρ S Q = wp a R ρ S fun d S1 => wp b R ρ S1 fun r S2 => match r with | .tup ds => Q (.tup (d :: ds)) S2 | _ => False := rfl
@[simp] theorem wp_var : wp (.var i) R ρ S Q = match ρ[i]? with | some (.sh d) => Q d S | _ => False := rfl
@[simp] theorem wp_bor : wp (.bor i) R ρ S Q = match ρ[i]? with | some (.sh d) => Q d S | some (.ow ds) => Q (.lst ds) S | _ => False := rfl
@[simp] theorem wp_con {k : Const} : wp (.con k) R ρ S Q = opt (conD k) fun d => Q d S := rfl
@[simp] theorem wp_glo {x : Str} {d : Dt} : wp (.glo x d) R ρ S Q = Q d S := rfl
@[simp] theorem wp_tup : wp (.tup a) R ρ S Q = wp a R ρ S fun r S1 => match r with | .tup ds => ds.length ≤ sizeLine ∧ Q (.tup ds) S1 | _ => False := rfl
@[simp] theorem wp_lst : wp (.lst a) R ρ S Q = wp a R ρ S fun r S1 => match r with | .tup ds => ds.length ≤ sizeLine ∧ Q (.lst ds) S1 | _ => False := rfl
@[simp] theorem wp_bin {o : Bop} : wp (.bin o a b) R ρ S Q = wp a R ρ S fun x S1 => wp b R ρ S1 fun y S2 => opt (binD o x y) fun d => Q d S2 := rfl
@[simp] theorem wp_cmp {o : Cop} : wp (.cmp o a b) R ρ S Q = wp a R ρ S fun x S1 => wp b R ρ S1 fun y S2 => opt (cmpD o x y) fun k => Q (.bl k) S2 := rfl
@[simp] theorem wp_and : wp (.and a b) R ρ S Q = wp a R ρ S fun x S1 => opt (tru x) fun k => match k with | true => wp b R ρ S1 Q | false => Q x S1 := rfl
@[simp] theorem wp_or : wp (.or a b) R ρ S Q = wp a R ρ S fun x S1 => opt (tru x) fun k => match k with | true => Q x S1 | false => wp b R ρ S1 Q := rfl
@[simp] theorem wp_not : wp (.not a) R ρ S Q = wp a R ρ S fun x S1 => opt (tru x) fun k => Q (.bl (!k)) S1 := rfl
@[simp] theorem wp_ite {t : Ex} : wp (.ite t a b) R ρ S Q = wp t R ρ S fun x S1 => opt (tru x) fun k => match k with | true => wp a R ρ S1 Q | false => wp b R ρ S1 Q := rfl
@[simp] theorem wp_idx : wp (.idx a b) R ρ S Q = wp a R ρ S fun x S1 => wp b R ρ S1 fun y S2 => opt (idxD x y) fun d => Q d S2 := rfl
@[simp] theorem wp_call {f : Str} {F : Fn} : wp (.call f F a) R ρ S Q = wp a R ρ S fun r S1 => match r with | .tup ds => F.run ds S1 Q R | _ => False := rfl
@[simp] theorem wp_blt {o : Blt} : wp (.blt o a) R ρ S Q = wp a R ρ S fun x S1 => opt (bltD o x) fun d => Q d S1 := rfl
@[simp] theorem wp_isi {ts : List String} : wp (.isi ts a) R ρ S Q = wp a R ρ S fun x S1 => opt (isiD ts x) fun k => Q (.bl k) S1 := rfl
@[simp] theorem wp_mth {m : Mth} : wp (.mth m a b) R ρ S Q = wp a R ρ S fun x S1 => recv m x = true ∧ wp b R ρ S1 fun y S2 => opt (mthD m x y) fun d => Q d S2 := rfl
@[simp] theorem wp_hix : wp (.hix i j) R ρ S Q = match ρ[i]? with
    | some (.sh (.hdl k)) => (match S[k]? with
      | some (.deck n) => deckRd n j fun d => Q d S
      | _ => False)
    | _ => False := rfl
@[simp] theorem wp_srs : wp (.srs a) R ρ S Q = wp a R ρ S fun x S1 => opt (srsD x) fun d => Q d S1 := rfl
@[simp] theorem wp_callb {f : Str} {F : Fn} : wp (.callb f F a) R ρ S Q = wp a R ρ S fun r S1 => match r with | .tup ds => opt (cbD F ds) fun d => Q d S1 | _ => False := rfl
@[simp] theorem wp_rev : wp (.rev a) R ρ S Q = wp a R ρ S fun x S1 => opt (revD x) fun d => Q d S1 := rfl
@[simp] theorem wp_fld {cn x : Str} : wp (.fld cn x a) R ρ S Q = wp a R ρ S fun v S1 => match v with
    | .hdl k => match S1[k]? with
      | some (.obj c' fs) => c' = cn ∧ opt (fs.lookup x) fun d => Q d S1
      | _ => False
    | _ => False := rfl
@[simp] theorem wp_ob {o : Obk} {F : Fn} : wp (.ob o F a b) R ρ S Q = wp a R ρ S fun v S1 => obOk o v S1 ∧ wp b R ρ S1 fun r S2 => match r with
    | .tup ds => o.arg v ds S2 ∧ F.run (v :: ds) S2 (fun d S3 => o.fit d ∧ Q d S3) (o.exc R)
    | _ => False := rfl
@[simp] theorem wp_mk {cn : Str} {F : Fn} : wp (.mk cn F a) R ρ S Q = wp a R ρ S fun r S1 => match r with
    | .tup ds => F.run (.hdl S1.length :: ds) (S1 ++ [.obj cn []]) (fun d S2 => d = .non ∧ Q (.hdl S1.length) S2) R
    | _ => False := rfl
@[simp] theorem wp_dnew : wp .dnew R ρ S Q = Q (.hdl S.length) (S ++ [.dct []]) := rfl
@[simp] theorem wp_din : wp (.din a b) R ρ S Q = wp a R ρ S fun x S1 => wp b R ρ S1 fun v S2 => opt (dctAt S2 v) fun p => opt (dinD p.2 x) fun k => Q (.bl k) S2 := rfl
@[simp] theorem wp_dget : wp (.dget a b) R ρ S Q = wp a R ρ S fun v S1 => wp b R ρ S1 fun x S2 => opt (dctAt S2 v) fun p => opt (dgetD p.2 x) fun t => Q (.str t) S2 := rfl
@[simp] theorem wp_dkeys : wp (.dkeys a) R ρ S Q = wp a R ρ S fun v S1 => opt (dctAt S1 v) fun p => Q (.lst (p.2.map fun q => .str q.1)) S1 := rfl
@[simp] theorem wp_isc {cn : Str} : wp (.isc cn a) R ρ S Q = wp a R ρ S fun v S1 => match v with
    | .hdl k => match S1[k]? with
      | some (.obj c' _) => c' = cn ∧ Q (.bl true) S1
      | _ => False
    | .dct _ => False
    | _ => Q (.bl false) S1 := rfl
@[simp] theorem wps_fset {cn x : Str} : wps (.fset cn x a e) R ρ S D = wp e R ρ S fun d S1 => wp a R ρ S1 fun v S2 => match v with
    | .hdl k => match S2[k]? with
      | some (.obj c' fs) => c' = cn ∧ fs.length < 900 ∧ D.nx ρ (S2.set k (.obj cn (putD x d fs)))
      | _ => False
    | _ => False := rfl
@[simp] theorem wps_utg {ts : List Tg} : wps (.utg ts e) R ρ S D = wp e R ρ S fun d S1 => match d with
    | .tup ds => ds.length = ts.length ∧ wtg ts ds ρ S1 D.nx
    | _ => False := rfl
@[simp] theorem wps_skip : wps .skip R ρ S D = D.nx ρ S := rfl
@[simp] theorem wps_seq : wps (.seq s s2) R ρ S D = wps s R ρ S { D with nx := fun ρ' S' => wps s2 R ρ' S' D } := rfl
@[simp] theorem wps_asg : wps (.asg i e) R ρ S D = wp e R ρ S fun d S1 => D.nx (ρ.set i (.sh d)) S1 := rfl
@[simp] theorem wps_own : wps (.own i e) R ρ S D = wp e R ρ S fun d S1 => opt (slotOf true d) fun s => D.nx (ρ.set i s) S1 := rfl
@[simp] theorem wps_par {oi oj : Bool} : wps (.par i j oi oj a b) R ρ S D = wp a R ρ S fun x S1 => wp b R ρ S1 fun y S2 => opt (slotOf oi x) fun s => opt (slotOf oj y) fun t => D.nx ((ρ.set i s).set j t) S2 := rfl
@[simp] theorem wps_unp {is : List Nat} : wps (.unp is e) R ρ S D = wp e R ρ S fun d S1 => opt (bindP (.many is) d ρ) fun ρ' => D.nx ρ' S1 := rfl
@[simp] theorem wps_ite {t : Ex} : wps (.ite t s s2) R ρ S D = wp t R ρ S fun x S1 => opt (tru x) fun k => match k with | true => wps s R ρ S1 D | false => wps s2 R ρ S1 D := rfl
@[simp] theorem wps_ret : wps (.ret e) R ρ S D = wp e R ρ S D.rt := rfl
@[simp] theorem wps_retn : wps .retn R ρ S D = D.rt .non S := rfl
@[simp] theorem wps_exp : wps (.exp e) R ρ S D = wp e R ρ S fun _ S1 => D.nx ρ S1 := rfl
@[simp] theorem wps_for {pt : Pt} : wps (.for_ pt e s) R ρ S D = wp e R ρ S fun d S1 => opt (items d) fun ds => wfor pt (fun ρ' S' k => wps s R ρ' S' { D with nx := k }) ds ρ S1 D.nx := rfl
@[simp] theorem wps_hst : wps (.hst i j e) R ρ S D = match ρ[i]? with
    | some (.sh (.hdl k)) => wp e R ρ S fun d S1 => match S1[k]? with
      | some (.deck n) => deckWr n j d fun r => D.nx ρ (S1.set k r)
      | _ => False
    | _ => False := rfl
end
/-- a comprehension's turn, computed -/
def lcT (own : List (Str × Nat)) (pt : Pt) (tst elt : Ex) (ρ : Ev) (x : Dt) : Option (Option Dt) := (bindP pt x (wipeE ρ (own.map (·.2)))).bind fun ρ' => (xe tst ρ').bind fun t => match tru t with
  | some true => (xe elt ρ').map some
  | some false => some none
  | none => none
section
variable {ρ : Ev} {a b c e : Ex} {s s2 : Sm} {i j : Nat}
@[simp] theorem xe_nil : xe .nil ρ = some (.tup []) := rfl
@[simp] theorem xe_cons : xe (.cons a b) ρ = (xe a ρ).bind fun d => match xe b ρ with | some (.tup ds) => some (.tup (d :: ds)) | _ => none := rfl
@[simp] theorem xe_var : xe (.var i) ρ = match ρ[i]? with | some (.sh d) => some d | _ => none := rfl
@[simp] theorem xe_bor : xe (.bor i) ρ = match ρ[i]? with | some (.sh d) => some d | some (.ow ds) => some (.lst ds) | _ => none := rfl
@[simp] theorem xe_con {k : Const} : xe (.con k) ρ = conD k := rfl
@[simp] theorem xe_glo {x : Str} {d : Dt} : xe (.glo x d) ρ = some d := rfl
@[simp] theorem xe_tup : xe (.tup a) ρ = match xe a ρ with | some (.tup ds) => if ds.length ≤ sizeLine then some (.tup ds) else none | _ => none := rfl
@[simp] theorem xe_lst : xe (.lst a) ρ = match xe a ρ with | some (.tup ds) => if ds.length ≤ sizeLine then some (.lst ds) else none | _ => none := rfl
@[simp] theorem xe_bin {o : Bop} : xe (.bin o a b) ρ = (xe a ρ).bind fun x => (xe b ρ).bind fun y => binD o x y := rfl
@[simp] theorem xe_cmp {o : Cop} : xe (.cmp o a b) ρ = (xe a ρ).bind fun x => (xe b ρ).bind fun y => (cmpD o x y).map .bl := rfl
@[simp] theorem xe_and : xe (.and a b) ρ = (xe a ρ).bind fun x => match tru x with | some true => xe b ρ | some false => some x | none => none := rfl
@[simp] theorem xe_or : xe (.or a b) ρ = (xe a ρ).bind fun x => match tru x with | some true => some x | some false => xe b ρ | none => none := rfl
@[simp] theorem xe_not : xe (.not a) ρ = (xe a ρ).bind fun x => (tru x).map fun k => .bl (!k) := rfl
@[simp] theorem xe_ite {t : Ex} : xe (.ite t a b) ρ = (xe t ρ).bind fun x => match tru x with | some true => xe a ρ | some false => xe b ρ | none => none := rfl
@[simp] theorem xe_idx : xe (.idx a b) ρ = (xe a ρ).bind fun x => (xe b ρ).bind fun y => idxD x y := rfl
@[simp] theorem xe_slc {lo hi : Ex} : xe (.slc a lo hi) ρ = (xe a ρ).bind fun x => (xe lo ρ).bind fun l => (endD lo.no l).bind fun l => (xe hi ρ).bind fun h => (endD hi.no h).bind fun h => slcD x l h := rfl
@[simp] theorem xe_call {f : Str} {F : Fn} : xe (.call f F a) ρ = match xe a ρ with | some (.tup ds) => F.ex ds | _ => none := rfl
@[simp] theorem xe_blt {o : Blt} : xe (.blt o a) ρ = (xe a ρ).bind fun x => bltD o x := rfl
@[simp] theorem xe_isi {ts : List String} : xe (.isi ts a) ρ = (xe a ρ).bind fun x => (isiD ts x).map .bl := rfl
@[simp] theorem xe_mth {m : Mth} : xe (.mth m a b) ρ = (xe a ρ).bind fun x => if recv m x then (xe b ρ).bind fun y => mthD m x y else none := rfl
@[simp] theorem xe_enu : xe (.enu a) ρ = (xe a ρ).bind fun d => (enuS d).map .lst := rfl
@[simp] theorem xe_srs : xe (.srs a) ρ = (xe a ρ).bind srsD := rfl
@[simp] theorem xe_callb {f : Str} {F : Fn} : xe (.callb f F a) ρ = match xe a ρ with | some (.tup ds) => cbD F ds | _ => none := rfl
@[simp] theorem xe_rev : xe (.rev a) ρ = (xe a ρ).bind revD := rfl
theorem xe_lc {own : List (Str × Nat)} {pt : Pt} {src tst elt : Ex} {d : Dt} {ds acc : List Dt} (hs : xe src ρ = some d) (hi : items d = some ds) (hl : lcX (lcT own pt tst elt ρ) ds = some acc) (hn : acc.length ≤ sizeLine) : xe (.lc own pt src tst elt) ρ = some (.lst acc) := by
  have e : xe (.lc own pt src tst elt) ρ = (xe src ρ).bind fun d => (items d).bind fun ds => match lcX (lcT own pt tst elt ρ) ds with
      | some acc => if acc.length ≤ sizeLine then some (.lst acc) else none
      | none => none := rfl
  rw [e, hs, Option.bind_some, hi, Option.bind_some, hl]
  exact if_pos hn
theorem lcX_filter {f : Dt → Option (Option Dt)} {p : Dt → Bool} : ∀ (xs : List Dt), (∀ x ∈ xs, f x = some (if p x = true then some x else none)) → lcX f xs = some (xs.filter p)
  | [], _ => rfl
  | x :: xs, h => by
    have ih := lcX_filter xs fun y hy => h y (List.mem_cons_of_mem _ hy)
    unfold lcX
    rw [h x List.mem_cons_self]
    by_cases q : p x = true
    · rw [if_pos q, List.filter_cons_of_pos q, ih]
      rfl
    · rw [if_neg q, List.filter_cons_of_neg q]
      exact ih
theorem lcX_map {f : Dt → Option (Option Dt)} {g : Dt → Dt} : ∀ (xs : List Dt), (∀ x ∈ xs, f x = some (some (g x))) → lcX f xs = some (xs.map g)
  | [], _ => rfl
  | x :: xs, h => by
    have ih := lcX_map xs fun y hy => h y (List.mem_cons_of_mem _ hy)
    unfold lcX
    rw [h x List.mem_cons_self, List.map_cons, ih]
    rfl
@[simp] theorem xs_skip : xs .skip ρ = some (.nx ρ) := rfl
@[simp] theorem xs_seq : xs (.seq s s2) ρ = match xs s ρ with | some (.nx ρ') => xs s2 ρ' | r => r := rfl
@[simp] theorem xs_asg : xs (.asg i e) ρ = (xe e ρ).map fun d => .nx (ρ.set i (.sh d)) := rfl
@[simp] theorem xs_own : xs (.own i e) ρ = (xe e ρ).bind fun d => (slotOf true d).map fun s => .nx (ρ.set i s) := rfl
@[simp] theorem xs_par {oi oj : Bool} : xs (.par i j oi oj a b) ρ = (xe a ρ).bind fun x => (xe b ρ).bind fun y => (slotOf oi x).bind fun s => (slotOf oj y).map fun t => .nx ((ρ.set i s).set j t) := rfl
@[simp] theorem xs_unp {is : List Nat} : xs (.unp is e) ρ = (xe e ρ).bind fun d => (bindP (.many is) d ρ).map .nx := rfl
@[simp] theorem xs_ite {t : Ex} : xs (.ite t s s2) ρ = (xe t ρ).bind fun x => match tru x with | some true => xs s ρ | some false => xs s2 ρ | none => none := rfl
@[simp] theorem xs_for {pt : Pt} : xs (.for_ pt e s) ρ = (xe e ρ).bind fun d => (items d).bind fun ds => forX pt (xs s) ds ρ := rfl
@[simp] theorem xs_ret : xs (.ret e) ρ = (xe e ρ).map .rt := rfl
@[simp] theorem xs_reto : xs (.reto i) ρ = match ρ[i]? with | some (.ow ds) => some (.rt (.lst ds)) | _ => none := rfl
@[simp] theorem xs_retn : xs .retn ρ = some (.rt .non) := rfl
@[simp] theorem xs_exp : xs (.exp e) ρ = (xe e ρ).map fun _ => .nx ρ := rfl
@[simp] theorem xs_app : xs (.app i e) ρ = match ρ[i]? with | some (.ow ds) => (xe e ρ).bind fun d => if ds.length < sizeLine then some (.nx (ρ.set i (.ow (ds ++ [d])))) else none | _ => none := rfl
@[simp] theorem xs_pops : xs (.pops i) ρ = match ρ[i]? with | some (.ow ds) => ds.getLast?.map fun _ => .nx (ρ.set i (.ow ds.dropLast)) | _ => none := rfl
@[simp] theorem xs_popa : xs (.popa j i) ρ = match ρ[i]? with | some (.ow ds) => ds.getLast?.map fun d => .nx ((ρ.set i (.ow ds.dropLast)).set j (.sh d)) | _ => none := rfl
@[simp] theorem xs_upop {is : List Nat} {f : Str} {F : Fn} : xs (.upop is f F e i) ρ = match xe e ρ, ρ[i]? with | some (.tup ds), some (.ow (p :: ps)) => (F.ex (ds ++ [p])).bind fun d => (bindP (.many is) d (ρ.set i (.ow ps))).map .nx | _, _ => none := rfl
@[simp] theorem xs_rse {x : Str} : xs (.rse x) ρ = none := rfl
@[simp] theorem xs_fail : xs .fail ρ = none := rfl
end
section
variable {i j : Int} {x y : Str} {as bs : List Dt} {a b : Bool} {d : Dt}
@[simp] theorem opt_s {α : Type} {a : α} {k : α → Prop} : opt (some a) k = k a := rfl
@[simp] theorem bin_add_i : binD .add (.int i) (.int j) = some (.int (i + j)) := rfl
@[simp] theorem bin_sub_i : binD .sub (.int i) (.int j) = some (.int (i - j)) := rfl
theorem bin_mul_i : binD .mul (.int i) (.int j) = if (-(2 ^ 64) < i ∧ i < 2 ^ 64) ∨ (-(2 ^ 64) < j ∧ j < 2 ^ 64) then some (.int (i * j)) else none := rfl
@[simp] theorem bin_add_l : binD .add (.lst as) (.lst bs) = if as.length + bs.length ≤ sizeLine then some (.lst (as ++ bs)) else none := rfl
@[simp] theorem bin_add_t : binD .add (.tup as) (.tup bs) = if as.length + bs.length ≤ sizeLine then some (.tup (as ++ bs)) else none := rfl
@[simp] theorem bin_add_s : binD .add (.str x) (.str y) = if x.length + y.length ≤ sizeLine then some (.str (x ++ y)) else none := rfl
@[simp] theorem cmp_lt_i : cmpD .lt (.int i) (.int j) = some (decide (i < j)) := rfl
@[simp] theorem cmp_le_i : cmpD .le (.int i) (.int j) = some (decide (i ≤ j)) := rfl
@[simp] theorem cmp_gt_i : cmpD .gt (.int i) (.int j) = some (decide (j < i)) := rfl
@[simp] theorem cmp_ge_i : cmpD .ge (.int i) (.int j) = some (decide (j ≤ i)) := rfl
@[simp] theorem cmp_eq_i : cmpD .eq (.int i) (.int j) = some (decide (i = j)) := by
  show some (PyData.eqv (.int i) (.int j)) = _
  simp [PyData.eqv]
  exact Bool.eq_iff_iff.mpr (by simp)
@[simp] theorem cmp_ne_i : cmpD .ne (.int i) (.int j) = some (!decide (i = j)) := by
  show some (!(PyData.eqv (.int i) (.int j))) = _
  simp [PyData.eqv]
  exact Bool.eq_iff_iff.mpr (by simp)
@[simp] theorem cmp_eq_s : cmpD .eq (.str x) (.str y) = some (decide (x = y)) := by
  show some (PyData.eqv (.str x) (.str y)) = _
  simp [PyData.eqv]
  exact Bool.eq_iff_iff.mpr (by simp)
@[simp] theorem cmp_ne_s : cmpD .ne (.str x) (.str y) = some (!decide (x = y)) := by
  show some (!(PyData.eqv (.str x) (.str y))) = _
  simp [PyData.eqv]
  exact Bool.eq_iff_iff.mpr (by simp)
@[simp] theorem cmp_in_s2 {z : Str} : cmpD .isin (.str x) (.tup [.str y, .str z]) = some (decide (y = x) || decide (z = x)) := by
  show some (inD (.str x) [.str y, .str z]) = _
  unfold inD eqD
  simp [toPy, PyData.eqv]
  exact Bool.eq_iff_iff.mpr (by simp)
@[simp] theorem blt_len_l : bltD .len (.lst as) = some (.int as.length) := rfl
@[simp] theorem blt_len_t : bltD .len (.tup as) = some (.int as.length) := rfl
@[simp] theorem blt_len_s : bltD .len (.str x) = some (.int x.length) := rfl
@[simp] theorem blt_int_i : bltD .int (.int i) = some (.int i) := rfl
@[simp] theorem blt_tup_l : bltD .tup (.lst as) = some (.tup as) := rfl
@[simp] theorem blt_tup_t : bltD .tup (.tup as) = some (.tup as) := rfl
@[simp] theorem blt_lst_l : bltD .lst (.lst as) = some (.lst as) := rfl
@[simp] theorem blt_lst_t : bltD .lst (.tup as) = some (.lst as) := rfl
@[simp] theorem tru_b : tru (.bl a) = some a := rfl
@[simp] theorem idx_l : idxD (.lst as) (.int i) = atI as i := rfl
@[simp] theorem idx_t : idxD (.tup as) (.int i) = atI as i := rfl
@[simp] theorem con_i : conD (.int i) = some (.int i) := rfl
@[simp] theorem con_s : conD (.str x) = some (.str x) := rfl
@[simp] theorem con_b : conD (.bool a) = some (.bl a) := rfl
@[simp] theorem con_n : conD .none = some .non := rfl
@[simp] theorem slot_f : slotOf false d = some (.sh d) := rfl
@[simp] theorem slot_t : slotOf true (.lst as) = some (.ow as) := rfl
end
/-- a def that draws: at most cost times of the deck that it is given; then one of post -/
def drwRun (cost : Nat) (pre : List Dt → Prop) (post : List Dt → Dt → Prop) (ds : List Dt) (S : Store) (Q : DK) : Prop := match ds with
  | .hdl k :: as => ∃ n, S[k]? = some (.deck n) ∧ cost ≤ n ∧ pre as ∧ ∀ d, post as d → Q d (S.set k (.deck (n - cost)))
  | _ => False
def Fn.drw (own : Bool) (cost : Nat) (pre : List Dt → Prop) (post : List Dt → Dt → Prop) : Fn where
  own := own
  ex := fun _ => none
  run := fun ds S Q _ => drwRun cost pre post ds S Q
  mono := fun ds S Q Q' R R' h _ q => by
    unfold drwRun at q ⊢
    split at q
    · obtain ⟨n, a, b, c, q⟩ := q
      exact ⟨n, a, b, c, fun d hd => h _ _ (q d hd)⟩
    · exact q
  ok := fun ds d S Q R e => nomatch e
/-- a draw, as a caller meets it -/
theorem drw_run {own : Bool} {cost : Nat} {pre : List Dt → Prop} {post : List Dt → Dt → Prop} {k : Nat} {as : List Dt} {S : Store} {Q : DK} {R : XR} {n : Nat} (h1 : S[k]? = some (.deck n)) (h2 : cost ≤ n) (h3 : pre as) (h4 : ∀ d, post as d → Q d (S.set k (.deck (n - cost)))) :
    (Fn.drw own cost pre post).run (.hdl k :: as) S Q R := ⟨n, h1, h2, h3, h4⟩
/-- the store with n draws left at k -/
abbrev Dk (S : Store) (k n : Nat) : Store := S.set k (.deck n)
theorem dk_at {S : Store} {k n : Nat} {r : Rs} (h : S[k]? = some r) : (Dk S k n)[k]? = some (.deck n) := List.getElem?_set_self (List.getElem?_eq_some_iff.mp h).1
theorem dk_dk {S : Store} {k n m : Nat} : Dk (Dk S k n) k m = Dk S k m := List.set_set ..
theorem dk_le {S : Store} {k n m : Nat} (h : n ≤ m) : Sle (Dk S k n) (Dk S k m) := by
  refine ⟨by rw [List.length_set, List.length_set], fun j a b h1 h2 => ?_⟩
  by_cases hj : k = j
  · subst hj
    have hl : k < S.length := by
      have := (List.getElem?_eq_some_iff.mp h1).1
      rwa [List.length_set] at this
    rw [List.getElem?_set_self hl] at h1 h2
    cases h1
    cases h2
    exact h
  · rw [List.getElem?_set_ne hj] at h1 h2
    rw [h1] at h2
    cases h2
    exact RsLe.refl _
theorem dk_self {S : Store} {k n : Nat} (h : S[k]? = some (.deck n)) : Dk S k n = S := by
  refine List.ext_getElem? fun j => ?_
  by_cases hj : k = j
  · subst hj
    rw [dk_at h, h]
  · exact List.getElem?_set_ne hj
/-- what is to be shown of a def that draws -/
theorem body_drw {own : Bool} {cost : Nat} {pre : List Dt → Prop} {post : List Dt → Dt → Prop} {n m : Nat} {s : Sm} (hn : ∀ as, pre as → as.length + 1 = n)
    (h : ∀ (k : Nat) (as : List Dt) (S : Store) (R : XR) (n : Nat), S[k]? = some (.deck n) → cost ≤ n → pre as →
      wps s R (ev0 m (.hdl k :: as)) S ⟨fun _ S' => ∃ n', n - cost ≤ n' ∧ S' = Dk S k n' ∧ post as .non, fun d S' => ∃ n', n - cost ≤ n' ∧ S' = Dk S k n' ∧ post as d⟩) : Body (Fn.drw own cost pre post) n m s := by
  intro ds S Q R q
  have q' : drwRun cost pre post ds S Q := q
  unfold drwRun at q'
  split at q'
  · rename_i k as
    obtain ⟨d, h1, h2, h3, h4⟩ := q'
    refine ⟨by rw [List.length_cons]; exact hn as h3, wps_mono _ _ _ _ _ _ _ (fun _ _ z => z) ?_ ?_ (h k as S R d h1 h2 h3)⟩
    · rintro _ S' ⟨n', a, rfl, b⟩
      exact ⟨_, dk_le a, h4 _ b⟩
    · rintro z S' ⟨n', a, rfl, b⟩
      exact ⟨_, dk_le a, h4 _ b⟩
  · exact q'.elim

/-- the same, the deck's count in sight -/
theorem drw_dk {own : Bool} {cost : Nat} {pre : List Dt → Prop} {post : List Dt → Dt → Prop} {k : Nat} {as : List Dt} {S : Store} {Q : DK} {R : XR} {n : Nat} (h1 : k < S.length) (h2 : cost ≤ n) (h3 : pre as) (h4 : ∀ d, post as d → Q d (Dk S k (n - cost))) :
    (Fn.drw own cost pre post).run (.hdl k :: as) (Dk S k n) Q R :=
  drw_run (n := n) (List.getElem?_set_self h1) h2 h3 fun d hd => by rw [show (Dk S k n).set k (.deck (n - cost)) = Dk S k (n - cost) from dk_dk]; exact h4 d hd
theorem body_dk {own : Bool} {cost : Nat} {pre : List Dt → Prop} {post : List Dt → Dt → Prop} {n m : Nat} {s : Sm} (hn : ∀ as, pre as → as.length + 1 = n)
    (h : ∀ (k : Nat) (as : List Dt) (S : Store) (R : XR) (n : Nat), k < S.length → cost ≤ n → pre as →
      wps s R (ev0 m (.hdl k :: as)) (Dk S k n) ⟨fun _ S' => ∃ n', n - cost ≤ n' ∧ S' = Dk S k n' ∧ post as .non, fun d S' => ∃ n', n - cost ≤ n' ∧ S' = Dk S k n' ∧ post as d⟩) : Body (Fn.drw own cost pre post) n m s :=
  body_drw hn fun k as S R n hk hc hp => by
    have q := h k as S R n (List.getElem?_eq_some_iff.mp hk).1 hc hp
    rw [dk_self hk] at q
    exact q
theorem atI_in {α : Type} {xs : List α} {i : Int} (h0 : 0 ≤ i) (h1 : i < xs.length) : ∃ d, atI xs i = some d ∧ d ∈ xs := by
  have hn : i.toNat < xs.length := by omega
  refine ⟨xs[i.toNat], ?_, List.getElem_mem hn⟩
  unfold atI ixN
  rw [if_pos h0, if_pos h1]
  exact List.getElem?_eq_getElem hn
theorem atI_back {α : Type} {xs : List α} {i : Int} (h0 : 0 ≤ i) (h1 : i < xs.length) : ∃ d, atI xs (i - 1) = some d ∧ d ∈ xs := by
  by_cases h : 0 ≤ i - 1
  · exact atI_in h (by omega)
  · have hn : (i - 1 + xs.length).toNat < xs.length := by omega
    refine ⟨xs[(i - 1 + xs.length).toNat], ?_, List.getElem_mem hn⟩
    unfold atI ixN
    rw [if_neg h, if_pos (by omega)]
    exact List.getElem?_eq_getElem hn

/-- a loop, by what holds ahead of each turn -/
theorem wfor_inv {pt : Pt} {s : Sm} {R : XR} {D : Ed} (I : Nat → Ev → Store → Prop) : ∀ (ds : List Dt) (i : Nat) (ρ : Ev) (S : Store) (k : Ev → Store → Prop), I i ρ S →
    (∀ (j : Nat) (d : Dt) (ρ : Ev) (S : Store), ds[j]? = some d → I (i + j) ρ S → opt (bindP pt d ρ) fun ρ' => wps s R ρ' S { D with nx := I (i + j + 1) }) → (∀ ρ S, I (i + ds.length) ρ S → k ρ S) → wfor pt (fun ρ' S' k => wps s R ρ' S' { D with nx := k }) ds ρ S k
  | [], i, ρ, S, k, h0, _, hk => hk _ _ h0
  | d :: ds, i, ρ, S, k, h0, hs, hk => opt_mono (fun ρ' q => wps_mono _ _ _ _ _ { D with nx := I (i + 1) } { D with nx := fun ρ'' S' => wfor pt (fun ρ' S' k => wps s R ρ' S' { D with nx := k }) ds ρ'' S' k } (fun _ _ z => z) (fun ρ'' S' h1 =>
      wfor_inv I ds (i + 1) ρ'' S' k h1 (fun j d ρ S e h => by
        have q := hs (j + 1) d ρ S e (by rw [show i + (j + 1) = i + 1 + j by omega]; exact h)
        rw [show i + (j + 1) + 1 = i + 1 + j + 1 by omega] at q
        exact q) fun ρ S h => hk ρ S (by rw [List.length_cons, show i + (ds.length + 1) = i + 1 + ds.length by omega]; exact h)) (fun _ _ z => z) q) (hs 0 d ρ S rfl h0)

theorem wps_for_inv {pt : Pt} {src : Ex} {s : Sm} {R : XR} {ρ : Ev} {S : Store} {D : Ed} (I : List Dt → Nat → Ev → Store → Prop) (hsrc : wp src R ρ S fun d S1 => opt (items d) fun ds => I ds 0 ρ S1)
    (hs : ∀ (ds : List Dt) (j : Nat) (d : Dt) (ρ : Ev) (S : Store), ds[j]? = some d → I ds j ρ S → opt (bindP pt d ρ) fun ρ' => wps s R ρ' S { D with nx := I ds (j + 1) }) (he : ∀ (ds : List Dt) (ρ : Ev) (S : Store), I ds ds.length ρ S → D.nx ρ S) : wps (.for_ pt src s) R ρ S D :=
  wp_mono _ _ _ _ _ _ _ (fun _ _ z => z) (fun d S1 q => opt_mono (fun ds q => wfor_inv (I ds) ds 0 ρ S1 D.nx q (fun j d ρ S e h => by
    rw [Nat.zero_add] at h ⊢
    exact hs ds j d ρ S e h) fun ρ S h => he ds ρ S (by rw [Nat.zero_add] at h; exact h)) q) hsrc

/-! ### a new deck -/
def deckF : Fn where
  own := true
  ex := fun _ => none
  run := fun ds S Q _ => ∃ cell turn : Int, ds = [.int cell, .int turn] ∧ ∀ x : Int, Q (.lst [.int x, .int (cell.fmod 2147483579), .int turn]) S
  mono := fun ds S Q Q' R R' h _ ⟨c, t, e, q⟩ => ⟨c, t, e, fun x => h _ _ (q x)⟩
  ok := fun ds d S Q R e => nomatch e
/-- many draws -/
abbrev many : Nat := 34359738368
def deckH : Fn where
  own := false
  ex := fun _ => none
  run := fun ds S Q _ => ∃ cell turn : Int, ds = [.int cell, .int turn] ∧ 0 ≤ turn ∧ turn ≤ 1000000 ∧ Q (.hdl S.length) (S ++ [.deck many])
  mono := fun ds S Q Q' R R' h _ ⟨c, t, e, a, b, q⟩ => ⟨c, t, e, a, b, h _ _ q⟩
  ok := fun ds d S Q R e => nomatch e
theorem Wd.add {G : Sur} {W : Wl} {S : Store} (w : Wd G W S) {l : Addr} {n : Nat} (hf : W.f l = none) (hn : l ∉ W.ad) (d : DeckOk W.h l n) : Wd G ⟨W.ad ++ [l], W.f, W.h⟩ (S ++ [.deck n]) := by
  refine ⟨w.sub, by rw [List.length_append, List.length_append, w.len]; rfl, ?_, fun k r e => ?_⟩
  · rw [List.nodup_append]
    refine ⟨w.nd, by simp, fun a ha b hb => ?_⟩
    rw [List.mem_singleton] at hb
    subst hb
    rintro rfl
    exact hn ha
  · by_cases hk : k < S.length
    · rw [List.getElem?_append_left hk] at e
      obtain ⟨a, h1, h2, h3⟩ := w.res k r e
      refine ⟨a, ?_, h2, ?_⟩
      · rw [List.getElem?_append_left (by rw [w.len]; exact hk)]
        exact h1
      · cases r with
        | deck m => exact h3
        | obj c fs =>
          obtain ⟨C, dx, vs, q1, q2, q3⟩ := h3
          exact ⟨C, dx, vs, q1, q2, RepF.grow (W := W) (W' := ⟨W.ad ++ [l], W.f, W.h⟩) (List.prefix_append ..) (Same.refl _) q3⟩
        | dct kvs => exact h3
    · rw [List.getElem?_append_right (by omega)] at e
      have hk2 : k - S.length = 0 := by
        have := (List.getElem?_eq_some_iff.mp e).1
        simp at this
        omega
      rw [hk2] at e
      cases e
      refine ⟨l, ?_, hf, d⟩
      rw [List.getElem?_append_right (by rw [w.len]; omega), w.len, hk2]
      rfl
theorem FnFact.imp {G : Sur} {k : Nat} {f : Str} {F F' : Fn} (h : FnFact G k f F) (hi : ∀ vs H Q E, spF G F' vs H Q E → spF G F vs H Q E) : FnFact G k f F' := by
  obtain ⟨a, fd, ps, h1, h3, h4, h5⟩ := h.ex
  exact ⟨⟨a, fd, ps, h1, h3.imp hi, h4, h5⟩⟩
theorem deck_fact {G : Sur} {k : Nat} {f : Str} (h : FnFact G k f deckF) : FnFact G k f deckH := by
  refine h.imp fun vs H Q E ⟨W, S, ds, e, w, r, cell, turn, hd, h0, h1, q⟩ => ⟨W, S, ds, e, w, r, cell, turn, hd, fun x z W' w' e' rz => ?_⟩
  obtain ⟨l, us, rfl, a1, a2, a3, a4, a5⟩ := (show Rz G.K .ow W W' z _ from rz).1 _ rfl
  have hu : us = [.int x, .int (cell.fmod 2147483579), .int turn] := by
    cases a2 with
    | cons b1 b => cases b with
      | cons b2 b => cases b with
        | cons b3 b =>
          cases b
          cases b1
          cases b2
          cases b3
          rfl
  subst hu
  have hm1 : 0 ≤ cell.fmod 2147483579 := Int.fmod_nonneg_of_pos _ (by decide)
  have hm2 : cell.fmod 2147483579 < 2147483579 := Int.fmod_lt_of_pos _ (by decide)
  have d : DeckOk W'.h l many := ⟨x, _, turn, a1, hm1, hm2, h0, by
    have : (many : Int) = 34359738368 := rfl
    have h2 : ((deckTop : Nat) : Int) = 68719476736 := rfl
    omega⟩
  have q' := q (.ref l) ⟨W'.ad ++ [l], W'.f, W'.h⟩ (w'.add a3 a4 d) ⟨e'.ad.trans (List.prefix_append ..), e'.f, e'.h, e'.fr, fun a ha => ?_, e'.td⟩ (.hdl ?_)
  · exact q'
  · rcases List.mem_append.mp ha with ha | ha
    · exact e'.nw a ha
    · rw [List.mem_singleton] at ha
      subst ha
      exact .inr a5
  · rw [List.getElem?_append_right (by rw [w'.len]; omega), w'.len, Nat.sub_self]
    rfl
theorem dk_new {S : Store} {n : Nat} : Dk (S ++ [.deck n]) S.length n = S ++ [.deck n] := dk_self (by rw [List.getElem?_append_right (Nat.le_refl _), Nat.sub_self]; rfl)
/-- the law: of whole numbers, True -/
def lawF : Fn where
  own := false
  ex := fun _ => none
  run := fun ds S Q _ => ∃ ns : List Int, ds = [.lst (ns.map .int)] ∧ ns.length ≤ 63 ∧ ∀ S', Q (.bl true) S'
  mono := fun ds S Q Q' R R' h _ ⟨ns, e, l, q⟩ => ⟨ns, e, l, fun S' => h _ _ (q S')⟩
  ok := fun ds d S Q R e => nomatch e
theorem slice_ints {ns : List Int} {lo hi : Option Int} : ∀ d ∈ cutD (Dt.int 0 :: ns.map Dt.int) lo hi, ∃ z : Int, d = .int z := fun d hd => by
  have h1 := List.mem_of_mem_drop (List.mem_of_mem_take hd)
  rcases List.mem_cons.mp h1 with rfl | h1
  · exact ⟨0, rfl⟩
  · obtain ⟨z, _, rfl⟩ := List.mem_map.mp h1
    exact ⟨z, rfl⟩
end Vr

/-! Texts joined, and split again. -/
namespace Vr
open PySem PySem.Spec PyProof.Rows L2

theorem cut_first {c : Nat} : ∀ {x y a b : List Nat}, c ∉ x → c ∉ y → x ++ c :: a = y ++ c :: b → x = y ∧ a = b
  | [], [], a, b, _, _, h => ⟨rfl, (List.cons.inj h).2⟩
  | [], v :: y, a, b, _, hy, h => by
    have := (List.cons.inj h).1
    exact absurd (this ▸ List.mem_cons_self) hy
  | u :: x, [], a, b, hx, _, h => by
    have := (List.cons.inj h).1
    exact absurd (this ▸ List.mem_cons_self) hx
  | u :: x, v :: y, a, b, hx, hy, h => by
    obtain ⟨h1, h2⟩ := List.cons.inj h
    obtain ⟨h3, h4⟩ := cut_first (fun z => hx (List.mem_cons_of_mem _ z)) (fun z => hy (List.mem_cons_of_mem _ z)) h2
    exact ⟨by rw [h1, h3], h4⟩
theorem cps_join {c : Nat} (x y : Str) (r : List Str) : (Str.join ⟨#[c]⟩ (x :: y :: r)).cps.toList = x.cps.toList ++ c :: (Str.join ⟨#[c]⟩ (y :: r)).cps.toList := by
  show (x ++ ⟨#[c]⟩ ++ Str.join ⟨#[c]⟩ (y :: r)).cps.toList = _
  rw [Str.cps_append, Str.cps_append, Array.toList_append, Array.toList_append, List.append_assoc]
  rfl
theorem join_inj {c : Nat} : ∀ (xs ys : List Str), xs ≠ [] → ys ≠ [] → (∀ x ∈ xs, c ∉ x.cps.toList) → (∀ y ∈ ys, c ∉ y.cps.toList) → (Str.join ⟨#[c]⟩ xs).cps.toList = (Str.join ⟨#[c]⟩ ys).cps.toList → xs = ys
  | [], _, h, _, _, _, _ => absurd rfl h
  | _ :: _, [], _, h, _, _, _ => absurd rfl h
  | [x], [y], _, _, _, _, h => by rw [str_ext (show x.cps.toList = y.cps.toList from h)]
  | [x], y :: z :: r, _, _, hx, _, h => by
    rw [cps_join] at h
    have h' : x.cps.toList = y.cps.toList ++ c :: (Str.join ⟨#[c]⟩ (z :: r)).cps.toList := h
    exact absurd (by rw [h']; simp) (hx x List.mem_cons_self)
  | x :: u :: s, [y], _, _, _, hy, h => by
    rw [cps_join] at h
    have h' : x.cps.toList ++ c :: (Str.join ⟨#[c]⟩ (u :: s)).cps.toList = y.cps.toList := h
    exact absurd (by rw [← h']; simp) (hy y List.mem_cons_self)
  | x :: u :: s, y :: z :: r, _, _, hx, hy, h => by
    rw [cps_join, cps_join] at h
    obtain ⟨h1, h2⟩ := cut_first (hx x List.mem_cons_self) (hy y List.mem_cons_self) h
    rw [str_ext h1, join_inj (u :: s) (z :: r) (by simp) (by simp) (fun a ha => hx a (List.mem_cons_of_mem _ ha)) (fun a ha => hy a (List.mem_cons_of_mem _ ha)) h2]
/-- lines that were joined are found again -/
theorem split_join {c : Nat} {xs : List Str} (hn : xs ≠ []) (h : ∀ x ∈ xs, c ∉ x.cps.toList) : Txt.split (Txt.join ⟨#[c]⟩ xs) ⟨#[c]⟩ = xs := by
  have e : Txt.join ⟨#[c]⟩ xs = Str.join ⟨#[c]⟩ xs := StrLaws.glued_eq_join _ _
  rw [e]
  refine join_inj (c := c) _ _ (fun z => ?_) hn (StrLaws.split_free _ c) h ?_
  · have := split_pos (Str.join ⟨#[c]⟩ xs) ⟨#[c]⟩
    rw [z] at this
    simp at this
  · rw [StrLaws.join_split]
theorem join_len (sep : Str) (xs : List Str) : (Txt.join sep xs).length ≤ (xs.map (·.length)).sum + xs.length * sep.length := by
  have e : Txt.join sep xs = Str.join sep xs := StrLaws.glued_eq_join _ _
  rw [e]
  exact StrLaws.join_length_le sep xs
theorem sum_le {m : Nat} : ∀ (xs : List Str), (∀ x ∈ xs, x.length ≤ m) → (xs.map (·.length)).sum ≤ xs.length * m
  | [], _ => by simp
  | x :: xs, h => by
    have h1 := sum_le xs fun y hy => h y (List.mem_cons_of_mem _ hy)
    have h2 := h x List.mem_cons_self
    simp only [List.map_cons, List.sum_cons, List.length_cons, Nat.succ_mul]
    omega
theorem strsOf_map : ∀ xs : List Str, strsOf (xs.map .str) = some xs
  | [] => rfl
  | x :: xs => by
    show (strsOf (xs.map .str)).map (x :: ·) = _
    rw [strsOf_map xs]
    rfl
/-- lines joined, as the terms do it -/
theorem join_D {sep : Str} {xs : List Str} {m : Nat} (h : ∀ x ∈ xs, x.length ≤ m) (hs : sep.length ≤ 1) (hb : xs.length * (m + 1) ≤ 1000000) : mthD .join (.str sep) (.lst (xs.map .str)) = some (.str (Txt.join sep xs)) := by
  have h1 := sum_le xs h
  have h2 := join_len sep xs
  have h3 : xs.length * sep.length ≤ xs.length * 1 := Nat.mul_le_mul_left _ hs
  rw [Nat.mul_add] at hb
  show ((strsOf (xs.map .str)).bind fun xs => _) = _
  rw [strsOf_map, Option.bind_some, if_pos]
  rw [sizeLine_eq]
  exact ⟨by omega, by omega⟩
/-- .. and split -/
theorem split_D {c : Nat} {xs : List Str} {m : Nat} (hn : xs ≠ []) (h : ∀ x ∈ xs, x.length ≤ m) (hc : ∀ x ∈ xs, c ∉ x.cps.toList) (hb : xs.length * (m + 1) ≤ 1000000) (hm : m ≤ 1000000) : mthD .split (.str (Txt.join ⟨#[c]⟩ xs)) (.str ⟨#[c]⟩) = some (.lst (xs.map .str)) := by
  have h1 := sum_le xs h
  have h2 := join_len ⟨#[c]⟩ xs
  have h3 : xs.length * (⟨#[c]⟩ : Str).length = xs.length * 1 := rfl
  rw [Nat.mul_add] at hb
  have e := split_join hn hc
  show (if ((⟨#[c]⟩ : Str).length == 0) = false ∧ (Txt.join ⟨#[c]⟩ xs).length + 2 ≤ sizeLine ∧ ((Txt.split (Txt.join ⟨#[c]⟩ xs) ⟨#[c]⟩).all fun x => decide (x.length ≤ sizeLine)) = true then some (Dt.lst ((Txt.split (Txt.join ⟨#[c]⟩ xs) ⟨#[c]⟩).map .str)) else none) = _
  rw [e, if_pos]
  refine ⟨rfl, by rw [sizeLine_eq]; omega, ?_⟩
  rw [List.all_eq_true]
  intro x hx
  have := h x hx
  rw [sizeLine_eq]
  exact decide_eq_true (by omega)
end Vr

/-! From a law's def to its end. -/
namespace Vr
open PySem PySem.Spec PyProof.Rows L2

theorem Wd.reb {P : Program} {w : World} {K : PySem.W.Frag} {mg : Str → Option Value} {b b' : Heap} {W : Wl} {S : Store} (h : Wd ⟨P, w, K, mg, b⟩ W S) : Wd ⟨P, w, K, mg, b'⟩ W S := by
  refine ⟨h.sub, h.len, h.nd, fun k r e => ?_⟩
  obtain ⟨a, h1, h2, h3⟩ := h.res k r e
  refine ⟨a, h1, h2, ?_⟩
  cases r with
  | deck n => exact h3
  | obj c fs => exact h3
  | dct kvs => exact h3
theorem sp_reb {P : Program} {w : World} {K : PySem.W.Frag} {mg : Str → Option Value} {b b' : Heap} {F : Fn} {vs : List V} {H : Hp} {Q : VK} {E : XK} (h : spF ⟨P, w, K, mg, b⟩ F vs H Q E) : spF ⟨P, w, K, mg, b'⟩ F vs H Q E := by
  obtain ⟨W, S, ds, e, wd, r, q⟩ := h
  exact ⟨W, S, ds, e, wd.reb, r, F.mono _ _ _ _ _ _ (fun d S' q z W' w' e' rz => q z W' w'.reb e' rz) (fun x S' q cls dd W' w' e' rx => q cls dd W' w'.reb e' rx) q⟩
theorem okcx {P : Program} {w : World} {K : PySem.W.Frag} {mg : Str → Option Value} {base : Heap} {CX CX' : CXT} {k : Nat} {f : Addr} {fd : FuncData} {ps : List Str} {sp : Sp} (F : FnOk P w K mg base CX k f fd ps sp) (h : ∀ outer H s E e s', CX outer H s E e s' → CX' outer H s E e s') :
    FnOk P w K mg base CX' k f fd ps sp :=
  ⟨F.len, fun A outer s H args us vs Q E hr he hb hv hs => codeAny_mono (F.run A outer s H args us vs Q E hr he hb hv hs) fun r s' q => by
    cases r with
    | error e => exact h _ _ _ _ _ _ q
    | ok fl => cases fl <;> exact q⟩
/-- exceptions, in whatever world -/
def CXw (P : Program) : CXT := fun outer H s E u s' => ∃ w, L2.CX P w outer H s E u s'
theorem cxw_no {P : Program} (H : Hp) (s : Shared) (e : Value) (s' : Shared) (h : CXw P [] H s (fun _ _ _ => False) e s') : False := by
  obtain ⟨w, _, _, _, _, _, _, _, _, _, _, _, _, z⟩ := h
  exact z
theorem ints_rep {K : PySem.W.Frag} {W : Wl} : ∀ ns : List Int, RepL K W (ns.map V.int) (ns.map Dt.int)
  | [] => .nil
  | n :: ns => .cons (.int n) (ints_rep ns)
theorem law_walk {P : Program} {w : World} {K : PySem.W.Frag} {mg : Str → Option Value} {h : Heap} {fa : List He.Fa} {fn : List He.DefD} {params : Arguments} {body : List Stmt} {scope : Scope} {N : List Str} {s : Sm} {k k' : Nat} {a : Addr} {x : Str} (X : K.In h) (G : h.Ns mainGlobals mg) (hmg : mg "law" = some (.ref a)) (c : He.SaysD fa fn K) (hb : Boots mg) (i j : Nat)
    (hfn : fn[i]? = some ⟨("law", none), "law", "law", params, body, scope, [], []⟩) (hfa : fa[j]? = some (.glo "law")) (hs : C8.scC N [x] scope = true)
    (hbind : ∀ (kV doc pm : Value) (an : Option Addr) (cdv ct : Value) (us : List Value), us.length = [x].length → bindArgs (PySem.W.fnOf "law" "law" params body scope .none kV doc pm an cdv ct) ⟨us, []⟩ = pure ([x].zip us))
    (hc : chkS N scope false s body = true) (hF : Body lawF 1 N.length s) (hk : k + 1 ≤ k') (hn : ∀ base : Heap, NeedS ⟨P, w, K, mg, base⟩ k s) :
    ∃ (K : PySem.W.Frag) (fd : FuncData) (sp : Sp), K.In h ∧ (∀ (s : Shared) (u : Value), BindsTo s fd ⟨[u], []⟩ [(x, u)]) ∧
        (∀ (H : Hp) (a : Addr) (ns : List Int), ns.length ≤ 63 → Only H → SqL K H a (ns.map V.int) → sp [.ref a] H (fun v _ => v = .bl true) fun _ _ _ => False) ∧
        ∀ base : Heap, K.In base → base.Ns mainGlobals mg → FnOk P w K mg base (CXw P) k' a fd [x] sp := by
  obtain ⟨fd, FD⟩ := c.def_ i hfn
  have ea : a = He.ga K "law" := by
    have e := He.glo_ok X G (c.fact j hfa)
    rw [hmg] at e
    exact Value.ref.inj (Option.some.inj e)
  subst ea
  refine ⟨K, fd, spF ⟨P, w, K, mg, h⟩ lawF, X, fun s u => FD.bindsA (ps := [x]) hbind s [u] rfl, fun H b ns hl ho hq => ?_, fun base kb gb => ?_⟩
  · refine ⟨⟨[], H, H⟩, [], [.lst (ns.map .int)], rfl, ⟨Same.refl _, rfl, List.nodup_nil, fun k r e => by simp at e⟩, .cons (.lst hq (ints_rep ns)) .nil, ns, rfl, hl, fun S' z W' w' e' rz => ?_⟩
    cases (show Rep K W' z (.bl true) from rz)
    rfl
  · exact FnOk.mono (okcx (FnOk.imp (ok_of (F := lawF) (base := base) FD hs hc hb (hn base) hF) fun vs H Q E q => sp_reb (b := h) (b' := base) q) fun outer H s E e s' q => ⟨w, q⟩) hk
theorem fact_none {P : Program} {w : World} {K : PySem.W.Frag} {mg : Str → Option Value} {base h : Heap} {fa : List He.Fa} {fn : List He.DefD} {f : Str} {params : Arguments} {body : List Stmt} {scope : Scope} {ps : List Str} {k : Nat} (X : K.In h) (G : h.Ns mainGlobals mg) (c : He.SaysD fa fn K) (i j : Nat)
    (hfn : fn[i]? = some ⟨(f, none), f, f, params, body, scope, [], []⟩) (hfa : fa[j]? = some (.glo f))
    (hbind : ∀ (kV doc pm : Value) (an : Option Addr) (cdv ct : Value) (us : List Value), us.length = ps.length → bindArgs (PySem.W.fnOf f f params body scope .none kV doc pm an cdv ct) ⟨us, []⟩ = pure (ps.zip us)) : FnFact ⟨P, w, K, mg, base⟩ k f (Fn.pure false fun _ => none) := by
  obtain ⟨fd, FD⟩ := c.def_ i hfn
  refine ⟨⟨_, fd, ps, He.glo_ok X G (c.fact j hfa), ⟨fun vs H Q E q => ?_, fun A outer s H args us vs Q E _ _ _ _ q => ?_⟩, FD.kp, FD.bindsN hbind⟩⟩
  · obtain ⟨W, S, ds, _, _, _, z⟩ := q
    exact z.elim
  · obtain ⟨W, S, ds, _, _, _, z⟩ := q
    exact z.elim
end Vr

/-! Typed data: tests, steps; loops over typed data. -/
namespace Vr
open PySem PySem.Spec PyProof.Rows L2

inductive Tst where
  | is (c w : Str) | same (c o : Str) | above (c : Str)
  deriving DecidableEq
inductive Stp where
  | show_ (t : Tst) | hide_ (t : Tst) | all_ | again_ | put (c w : Str) | take (c o : Str) | first (c : Str) | down (c : Str) | drop_ | double_
  deriving DecidableEq
def Tst.d : Tst → Dt
  | .is c w => .tup [.str "is", .str c, .str w]
  | .same c o => .tup [.str "same", .str c, .str o]
  | .above c => .tup [.str "above", .str c]
def Stp.d : Stp → Dt
  | .show_ t => .tup [.str "show", t.d]
  | .hide_ t => .tup [.str "hide", t.d]
  | .all_ => .tup [.str "all"]
  | .again_ => .tup [.str "again"]
  | .put c w => .tup [.str "put", .str c, .str w]
  | .take c o => .tup [.str "take", .str c, .str o]
  | .first c => .tup [.str "first", .str c]
  | .down c => .tup [.str "down", .str c]
  | .drop_ => .tup [.str "drop"]
  | .double_ => .tup [.str "double"]
/-- the columns that a test, a step speaks of -/
def Tst.okC (hs : List Str) : Tst → Prop
  | .is c _ => c ∈ hs
  | .same c o => c ∈ hs ∧ o ∈ hs ∧ c ≠ o
  | .above c => c ∈ hs
def Stp.okC (hs : List Str) : Stp → Prop
  | .show_ t => t.okC hs
  | .hide_ t => t.okC hs
  | .put c _ => c ∈ hs
  | .take c o => c ∈ hs ∧ o ∈ hs ∧ c ≠ o
  | .first c => c ∈ hs
  | .down c => c ∈ hs
  | _ => True
/-- the words that are named -/
def Tst.nm : Tst → List Str
  | .is _ w => [w]
  | _ => []
def Stp.nm : Stp → List Str
  | .show_ t => t.nm
  | .hide_ t => t.nm
  | .put _ w => [w]
  | _ => []
@[simp] theorem wp_slc {a lo hi : Ex} {R : XR} {ρ : Ev} {S : Store} {Q : DK} : wp (.slc a lo hi) R ρ S Q = wp a R ρ S fun x S1 => wp lo R ρ S1 fun l S2 => opt (endD lo.no l) fun l => wp hi R ρ S2 fun h S3 => opt (endD hi.no h) fun h => opt (slcD x l h) fun d => Q d S3 := rfl
@[simp] theorem wp_enu {a : Ex} {R : XR} {ρ : Ev} {S : Store} {Q : DK} : wp (.enu a) R ρ S Q = wp a R ρ S fun d S1 => opt (enuS d) fun ds => Q (.lst ds) S1 := rfl
@[simp] theorem wps_sti {i : Nat} {k e : Ex} {R : XR} {ρ : Ev} {S : Store} {D : Ed} : wps (.sti i k e) R ρ S D = match ρ[i]? with
    | some (.ow ds) => wp e R ρ S fun d S1 => wp k R ρ S1 fun j S2 => match j with
      | .int j => opt (ixN ds.length j) fun j => D.nx (ρ.set i (.ow (ds.set j d))) S2
      | _ => False
    | _ => False := rfl
@[simp] theorem wps_shr {i : Nat} {R : XR} {ρ : Ev} {S : Store} {D : Ed} : wps (.shr i) R ρ S D = match ρ[i]? with
    | some (.ow ds) => D.nx (ρ.set i (.sh (.lst ds))) S
    | _ => D.nx ρ S := rfl
@[simp] theorem wps_app {i : Nat} {e : Ex} {R : XR} {ρ : Ev} {S : Store} {D : Ed} : wps (.app i e) R ρ S D = match ρ[i]? with
    | some (.ow ds) => wp e R ρ S fun d S1 => ds.length < sizeLine ∧ D.nx (ρ.set i (.ow (ds ++ [d]))) S1
    | _ => False := rfl
@[simp] theorem wps_reto {i : Nat} {R : XR} {ρ : Ev} {S : Store} {D : Ed} : wps (.reto i) R ρ S D = match ρ[i]? with
    | some (.ow ds) => D.rt (.lst ds) S
    | _ => False := rfl
/-- a loop over typed data; I: what holds ahead of those that are left -/
theorem forX_inv {α β : Type} {pt : Pt} {body : Ev → Option Fl} (e : β → Dt) (I : α → List β → Ev → Prop) (f : α → β → α) (P : β → Prop) (h : ∀ a b bs ρ, P b → I a (b :: bs) ρ → ∃ ρ' ρ'', bindP pt (e b) ρ = some ρ' ∧ body ρ' = some (.nx ρ'') ∧ I (f a b) bs ρ'') :
    ∀ (bs : List β) (a : α) (ρ : Ev), (∀ b ∈ bs, P b) → I a bs ρ → ∃ ρ', forX pt body (bs.map e) ρ = some (.nx ρ') ∧ I (bs.foldl f a) [] ρ'
  | [], a, ρ, _, i => ⟨ρ, rfl, i⟩
  | b :: bs, a, ρ, hp, i => by
    obtain ⟨ρ', ρ'', h1, h2, h3⟩ := h a b bs ρ (hp b List.mem_cons_self) i
    obtain ⟨ρ3, h4, h5⟩ := forX_inv e I f P h bs (f a b) ρ'' (fun c hc => hp c (List.mem_cons_of_mem _ hc)) h3
    refine ⟨ρ3, ?_, h5⟩
    show (bindP pt (e b) ρ).bind _ = _
    rw [h1, Option.bind_some, h2]
    exact h4
theorem foldl_flat {α β : Type} (g : β → List α) : ∀ (bs : List β) (acc : List α), bs.foldl (fun a b => a ++ g b) acc = acc ++ bs.flatMap g
  | [], acc => by simp
  | b :: bs, acc => by
    rw [List.foldl_cons, foldl_flat g bs]
    simp
theorem atI_1 {α : Type} {x y : α} {zs : List α} : atI (x :: y :: zs) 1 = some y := by
  unfold atI ixN
  rw [if_pos (by decide), if_pos (by simp; omega)]
  rfl
theorem atI_2 {α : Type} {x y z : α} {zs : List α} : atI (x :: y :: z :: zs) 2 = some z := by
  unfold atI ixN
  rw [if_pos (by decide), if_pos (by simp; omega)]
  rfl
theorem atI_z {α : Type} {x : α} {xs : List α} : atI (x :: xs) 0 = some x := by
  unfold atI ixN
  rw [if_pos (by decide), if_pos (by simp)]
  rfl
theorem srs_map {xs : List Str} (h : xs.length ≤ 4000) : srsD (.lst (xs.map .str)) = some (.lst ((srtS xs).map .str)) := by
  show (strsOf (xs.map Dt.str)).bind _ = _
  rw [strsOf_map]
  exact if_pos h
instance {hs : List Str} {t : Tst} : Decidable (t.okC hs) := by cases t <;> unfold Tst.okC <;> infer_instance
instance {hs : List Str} {t : Stp} : Decidable (t.okC hs) := by cases t <;> unfold Stp.okC <;> infer_instance
/-- back from data -/
def unT : Dt → Option Tst
  | .tup [.str k, .str c, .str w] => if k = "is" then some (.is c w) else if k = "same" then some (.same c w) else none
  | .tup [.str k, .str c] => if k = "above" then some (.above c) else none
  | _ => none
def unD : Dt → Option Stp
  | .tup [.str k] => if k = "all" then some .all_ else if k = "again" then some .again_ else if k = "drop" then some .drop_ else if k = "double" then some .double_ else none
  | .tup [.str k, .str c, .str w] => if k = "put" then some (.put c w) else if k = "take" then some (.take c w) else none
  | .tup [.str k, .str c] => if k = "first" then some (.first c) else if k = "down" then some (.down c) else none
  | .tup [.str k, t] => if k = "show" then (unT t).map .show_ else if k = "hide" then (unT t).map .hide_ else none
  | _ => none
def isFT : Stp → Bool
  | .show_ _ => true
  | .hide_ _ => true
  | _ => false
def pstepT (st : List Stp × List Stp) (s : Stp) : List Stp × List Stp := (st.1 ++ (if s = .again_ then .all_ :: st.2 else [s]), if s = .all_ then [] else if isFT s = true then st.2 ++ [s] else st.2)
/-- the plain steps -/
def plainT (sts : List Stp) : List Stp := (sts.foldl pstepT ([], [])).1
def Tst.isAb : Tst → Bool
  | .above _ => true
  | _ => false
/-- whether a plain step has a memory -/
def remT : Stp → Bool
  | .show_ t => t.isAb
  | .hide_ t => t.isAb
  | .first _ => true
  | .down _ => true
  | _ => false
def loadT (sts : List Stp) : Nat := ((plainT sts).filter remT).length
/-- every word that is drawn for scripts, all columns that are drawn -/
def allWs : List Str := ["", "x", "y", "a", "zzzzzzzz", "drop", "m", "n", "o"]
def colsA : List (List Str) := [["a"], ["a", "b"], ["a", "b", "c"], ["is", "zzzzzzzz"], ["above", "all", "show"], ["is"]]
abbrev strL (xs : List Str) : List Dt := xs.map .str

/-! ### equality -/
mutual
/-- texts, None, and bools alone (m) or whole numbers alone, in tuples and lists -/
def mixf (m : Bool) : Dt → Bool
  | .non => true
  | .bl _ => m
  | .int _ => !m
  | .str _ => true
  | .tup ds => mixfs m ds
  | .lst ds => mixfs m ds
  | .hdl _ => false
  | .dct _ => false
def mixfs (m : Bool) : List Dt → Bool
  | [] => true
  | d :: ds => mixf m d && mixfs m ds
end
mutual
theorem eqD_iff (m : Bool) : ∀ a b : Dt, mixf m a = true → mixf m b = true → (eqD a b = true ↔ a = b)
  | .non, .non, _, _ => by simp [eqD, toPy, PyData.eqv]
  | .bl a, .bl b, _, _ => by simp [eqD, toPy, PyData.eqv]
  | .int a, .int b, _, _ => by simp [eqD, toPy, PyData.eqv]
  | .str a, .str b, _, _ => by simp [eqD, toPy, PyData.eqv]
  | .tup as, .tup bs, ha, hb => by
    have := eqDs_iff m as bs (by simpa [mixf] using ha) (by simpa [mixf] using hb)
    simpa [eqD, toPy, PyData.eqv] using this
  | .lst as, .lst bs, ha, hb => by
    have := eqDs_iff m as bs (by simpa [mixf] using ha) (by simpa [mixf] using hb)
    simpa [eqD, toPy, PyData.eqv] using this
  | .bl a, .int b, ha, hb => by cases m <;> simp [mixf] at ha hb
  | .int a, .bl b, ha, hb => by cases m <;> simp [mixf] at ha hb
  | .hdl _, _, ha, _ => by simp [mixf] at ha
  | .dct _, _, ha, _ => by simp [mixf] at ha
  | .non, .hdl _, _, hb => by simp [mixf] at hb
  | .non, .dct _, _, hb => by simp [mixf] at hb
  | .bl _, .hdl _, _, hb => by simp [mixf] at hb
  | .bl _, .dct _, _, hb => by simp [mixf] at hb
  | .int _, .hdl _, _, hb => by simp [mixf] at hb
  | .int _, .dct _, _, hb => by simp [mixf] at hb
  | .str _, .hdl _, _, hb => by simp [mixf] at hb
  | .str _, .dct _, _, hb => by simp [mixf] at hb
  | .tup _, .hdl _, _, hb => by simp [mixf] at hb
  | .tup _, .dct _, _, hb => by simp [mixf] at hb
  | .lst _, .hdl _, _, hb => by simp [mixf] at hb
  | .lst _, .dct _, _, hb => by simp [mixf] at hb
  | .non, .bl _, _, _ => by simp [eqD, toPy, PyData.eqv]
  | .non, .int _, _, _ => by simp [eqD, toPy, PyData.eqv]
  | .non, .str _, _, _ => by simp [eqD, toPy, PyData.eqv]
  | .non, .tup _, _, _ => by simp [eqD, toPy, PyData.eqv]
  | .non, .lst _, _, _ => by simp [eqD, toPy, PyData.eqv]
  | .bl _, .non, _, _ => by simp [eqD, toPy, PyData.eqv]
  | .bl _, .str _, _, _ => by simp [eqD, toPy, PyData.eqv]
  | .bl _, .tup _, _, _ => by simp [eqD, toPy, PyData.eqv]
  | .bl _, .lst _, _, _ => by simp [eqD, toPy, PyData.eqv]
  | .int _, .non, _, _ => by simp [eqD, toPy, PyData.eqv]
  | .int _, .str _, _, _ => by simp [eqD, toPy, PyData.eqv]
  | .int _, .tup _, _, _ => by simp [eqD, toPy, PyData.eqv]
  | .int _, .lst _, _, _ => by simp [eqD, toPy, PyData.eqv]
  | .str _, .non, _, _ => by simp [eqD, toPy, PyData.eqv]
  | .str _, .bl _, _, _ => by simp [eqD, toPy, PyData.eqv]
  | .str _, .int _, _, _ => by simp [eqD, toPy, PyData.eqv]
  | .str _, .tup _, _, _ => by simp [eqD, toPy, PyData.eqv]
  | .str _, .lst _, _, _ => by simp [eqD, toPy, PyData.eqv]
  | .tup _, .non, _, _ => by simp [eqD, toPy, PyData.eqv]
  | .tup _, .bl _, _, _ => by simp [eqD, toPy, PyData.eqv]
  | .tup _, .int _, _, _ => by simp [eqD, toPy, PyData.eqv]
  | .tup _, .str _, _, _ => by simp [eqD, toPy, PyData.eqv]
  | .tup _, .lst _, _, _ => by simp [eqD, toPy, PyData.eqv]
  | .lst _, .non, _, _ => by simp [eqD, toPy, PyData.eqv]
  | .lst _, .bl _, _, _ => by simp [eqD, toPy, PyData.eqv]
  | .lst _, .int _, _, _ => by simp [eqD, toPy, PyData.eqv]
  | .lst _, .str _, _, _ => by simp [eqD, toPy, PyData.eqv]
  | .lst _, .tup _, _, _ => by simp [eqD, toPy, PyData.eqv]
theorem eqDs_iff (m : Bool) : ∀ as bs : List Dt, mixfs m as = true → mixfs m bs = true → (PyData.eqvAll (toPys as) (toPys bs) = true ↔ as = bs)
  | [], [], _, _ => by simp [toPys, PyData.eqvAll]
  | [], _ :: _, _, _ => by simp [toPys, PyData.eqvAll]
  | _ :: _, [], _, _ => by simp [toPys, PyData.eqvAll]
  | a :: as, b :: bs, ha, hb => by
    simp only [mixfs, Bool.and_eq_true] at ha hb
    have h1 := eqD_iff m a b ha.1 hb.1
    have h2 := eqDs_iff m as bs ha.2 hb.2
    unfold eqD at h1
    simp only [toPys, PyData.eqvAll, Bool.and_eq_true, List.cons.injEq]
    rw [h1, h2]
end
theorem mixfs_map {α : Type} {m : Bool} {g : α → Dt} (h : ∀ x, mixf m (g x) = true) : ∀ xs : List α, mixfs m (xs.map g) = true
  | [] => rfl
  | x :: xs => by rw [List.map_cons, mixfs, h x, mixfs_map h xs]; rfl
theorem mixfs_iff {m : Bool} : ∀ ds : List Dt, mixfs m ds = true ↔ ∀ d ∈ ds, mixf m d = true
  | [] => by simp [mixfs]
  | d :: ds => by rw [mixfs, Bool.and_eq_true, mixfs_iff ds]; simp
theorem cmpE_mix {m : Bool} {a b : Dt} [Decidable (a = b)] (ha : plainD a = true) (hb : plainD b = true) (h1 : mixf m a = true) (h2 : mixf m b = true) : cmpD .eq a b = some (decide (a = b)) ∧ cmpD .ne a b = some (!decide (a = b)) := by
  have e : eqD a b = decide (a = b) := Bool.eq_iff_iff.mpr (by rw [eqD_iff m a b h1 h2, decide_eq_true_eq])
  constructor
  · show (if plainD a && plainD b then some (eqD a b) else none) = _
    rw [ha, hb, e]
    rfl
  · show (if plainD a && plainD b then some (!eqD a b) else none) = _
    rw [ha, hb, e]
    rfl
mutual
theorem eqD_refl : ∀ (n : Nat) (d : Dt), okD n d = true → eqD d d = true
  | _, .non, _ => by simp [eqD, toPy, PyData.eqv]
  | _, .bl _, _ => by simp [eqD, toPy, PyData.eqv]
  | _, .int _, _ => by simp [eqD, toPy, PyData.eqv]
  | _, .str _, _ => by simp [eqD, toPy, PyData.eqv]
  | n + 1, .tup ds, h => by
    have := eqDs_refl n ds h
    simpa [eqD, toPy, PyData.eqv] using this
  | n + 1, .lst ds, h => by
    have := eqDs_refl n ds h
    simpa [eqD, toPy, PyData.eqv] using this
  | 0, .tup ds, h => by simp [okD] at h
  | 0, .lst ds, h => by simp [okD] at h
  | 0, .hdl _, h => by simp [okD] at h
  | n + 1, .hdl _, h => by simp [okD] at h
  | 0, .dct _, h => by simp [okD] at h
  | n + 1, .dct _, h => by simp [okD] at h
theorem eqDs_refl : ∀ (n : Nat) (ds : List Dt), ds.all (okD n) = true → PyData.eqvAll (toPys ds) (toPys ds) = true
  | _, [], _ => by simp [toPys, PyData.eqvAll]
  | n, d :: ds, h => by
    rw [List.all_cons, Bool.and_eq_true] at h
    have h1 := eqD_refl n d h.1
    unfold eqD at h1
    simp only [toPys, PyData.eqvAll, Bool.and_eq_true]
    exact ⟨h1, eqDs_refl n ds h.2⟩
end
theorem cmp_refl {d : Dt} (h : plainD d = true) : cmpD .eq d d = some true ∧ cmpD .ne d d = some false := by
  have e := eqD_refl _ d h
  constructor
  · show (if plainD d && plainD d then some (eqD d d) else none) = _
    rw [h, e]
    rfl
  · show (if plainD d && plainD d then some (!eqD d d) else none) = _
    rw [h, e]
    rfl
theorem okD_strs (n : Nat) (xs : List Str) : (strL xs).all (okD n) = true := by
  rw [List.all_eq_true]
  intro d hd
  obtain ⟨x, _, rfl⟩ := List.mem_map.mp hd
  cases n <;> rfl

/-! ### statements one by one -/
section
variable {ρ : Ev} {r : Option Fl} {i j : Nat} {e src t : Ex} {a b rest : Sm} {d : Dt}
theorem exF_rt {n m : Nat} {s : Sm} {ds : List Dt} {d : Dt} (hl : ds.length = n) (h : xs s (ev0 m ds) = some (.rt d)) : exF n m s ds = some d := by
  unfold exF
  rw [if_pos hl, h]
theorem exF_nx {n m : Nat} {s : Sm} {ds : List Dt} {ρ' : Ev} (hl : ds.length = n) (h : xs s (ev0 m ds) = some (.nx ρ')) : exF n m s ds = some .non := by
  unfold exF
  rw [if_pos hl, h]
theorem x_asg (d : Dt) (h : xe e ρ = some d) (hk : xs rest (ρ.set i (.sh d)) = r) : xs (.seq (.asg i e) rest) ρ = r := by
  rw [xs_seq, xs_asg, h]
  exact hk
theorem x_own (ds : List Dt) (h : xe e ρ = some (.lst ds)) (hk : xs rest (ρ.set i (.ow ds)) = r) : xs (.seq (.own i e) rest) ρ = r := by
  rw [xs_seq, xs_own, h]
  exact hk
theorem x_ret (h : xe e ρ = some d) : xs (.seq (.ret e) rest) ρ = some (.rt d) := by
  rw [xs_seq, xs_ret, h]
  rfl
theorem x_exp (d : Dt) (h : xe e ρ = some d) (hk : xs rest ρ = r) : xs (.seq (.exp e) rest) ρ = r := by
  rw [xs_seq, xs_exp, h]
  exact hk
/-- a test that goes one way -/
theorem x_if (k : Bool) (h : (xe t ρ).bind tru = some k) (hk : xs (.seq (if k then a else b) rest) ρ = r) : xs (.seq (.ite t a b) rest) ρ = r := by
  rw [xs_seq, xs_ite]
  obtain ⟨x, h1, h2⟩ := bind_some h
  rw [h1, Option.bind_some, h2]
  cases k with
  | true => exact hk
  | false => exact hk
theorem x_ifT (h : (xe t ρ).bind tru = some true) (hk : xs (.seq a rest) ρ = r) : xs (.seq (.ite t a b) rest) ρ = r := x_if true h hk
theorem x_ifF (h : (xe t ρ).bind tru = some false) (hk : xs (.seq b rest) ρ = r) : xs (.seq (.ite t a b) rest) ρ = r := x_if false h hk
theorem x_skip (hk : xs rest ρ = r) : xs (.seq .skip rest) ρ = r := hk
theorem x_seq (hk : xs (.seq a (.seq b rest)) ρ = r) : xs (.seq (.seq a b) rest) ρ = r := by
  rw [xs_seq, xs_seq]
  rw [xs_seq] at hk
  cases h : xs a ρ with
  | none => rw [h] at hk; exact hk
  | some q =>
    rw [h] at hk
    cases q with
    | nx ρ' => exact hk
    | rt d => exact hk
theorem x_for {α β : Type} {pt : Pt} (enc : β → Dt) (I : α → List β → Ev → Prop) (f : α → β → α) (P : β → Prop) (bs : List β) (a0 : α) {D : Dt} (hs : xe src ρ = some D) (hi : items D = some (bs.map enc)) (hP : ∀ b ∈ bs, P b) (h0 : I a0 bs ρ)
    (h : ∀ a b' bs ρ, P b' → I a (b' :: bs) ρ → ∃ ρ' ρ'', bindP pt (enc b') ρ = some ρ' ∧ xs b ρ' = some (.nx ρ'') ∧ I (f a b') bs ρ'') (hk : ∀ ρ', I (bs.foldl f a0) [] ρ' → xs rest ρ' = r) : xs (.seq (.for_ pt src b) rest) ρ = r := by
  rw [xs_seq, xs_for, hs, Option.bind_some, hi, Option.bind_some]
  obtain ⟨ρ', h1, h2⟩ := forX_inv (pt := pt) (body := xs b) enc I f P h bs a0 ρ hP h0
  rw [h1]
  exact hk ρ' h2
/-- a comprehension over typed data -/
theorem lc_T {α : Type} {own : List (Str × Nat)} {pt : Pt} {src tst elt : Ex} {ρ : Ev} {D : Dt} (enc g : α → Dt) (p : α → Bool) (xs : List α) (hs : xe src ρ = some D) (hi : items D = some (xs.map enc)) (h : ∀ x ∈ xs, lcT own pt tst elt ρ (enc x) = some (if p x = true then some (g x) else none)) (hl : xs.length ≤ sizeLine) :
    xe (.lc own pt src tst elt) ρ = some (.lst ((xs.filter p).map g)) := by
  refine xe_lc hs hi ?_ (by rw [List.length_map]; exact Nat.le_trans (List.length_filter_le _ _) hl)
  clear hs hi hl
  induction xs with
  | nil => rfl
  | cons x xs ih =>
    have ih := ih fun y hy => h y (List.mem_cons_of_mem _ hy)
    rw [List.map_cons]
    unfold lcX
    rw [h x List.mem_cons_self]
    by_cases q : p x = true
    · rw [if_pos q, List.filter_cons_of_pos q, ih]
      rfl
    · rw [if_neg q, List.filter_cons_of_neg q]
      exact ih
/-- two clauses -/
def outX (own : List (Str × Nat)) (pt : Pt) (T : Ex) (js : List Nat) (pt1 : Pt) (S1 T1 E : Ex) (ρ : Ev) (x : Dt) : Option (List Dt) := (bindP pt x (wipeE (noOw ρ) (own.map (·.2)))).bind fun ρ' => (xe T ρ').bind fun t => match tru t with
  | some true => (xe S1 ρ').bind fun d1 => (items d1).bind fun es => lcX (fun y => (bindP pt1 y (wipeE ρ' js)).bind fun ρ2 => (xe T1 ρ2).bind fun t1 => match tru t1 with
    | some true => (xe E ρ2).map some
    | some false => some none
    | none => none) es
  | some false => some []
  | none => none
theorem xe_lc2 {own : List (Str × Nat)} {pt pt1 : Pt} {src T S1 T1 E : Ex} {js : List Nat} {ρ : Ev} {d : Dt} {ds acc : List Dt} (hs : xe src ρ = some d) (hi : items d = some ds) (hl : llX (outX own pt T js pt1 S1 T1 E ρ) ds = some acc) (hn : acc.length ≤ sizeLine) : xe (.lc2 own pt src T js pt1 S1 T1 E) ρ = some (.lst acc) := by
  have e : xe (.lc2 own pt src T js pt1 S1 T1 E) ρ = (xe src ρ).bind fun d => (items d).bind fun ds => match llX (outX own pt T js pt1 S1 T1 E ρ) ds with
      | some acc => if acc.length ≤ sizeLine then some (.lst acc) else none
      | none => none := rfl
  rw [e, hs, Option.bind_some, hi, Option.bind_some, hl]
  exact if_pos hn
theorem llX_map {α : Type} {f : Dt → Option (List Dt)} (enc : α → Dt) (g : α → List Dt) : ∀ xs : List α, (∀ x ∈ xs, f (enc x) = some (g x)) → llX f (xs.map enc) = some (xs.flatMap g)
  | [], _ => rfl
  | x :: xs, h => by
    rw [List.map_cons]
    unfold llX
    rw [h x List.mem_cons_self, llX_map enc g xs fun y hy => h y (List.mem_cons_of_mem _ hy)]
    rfl
theorem lcX_map' {α : Type} {f : Dt → Option (Option Dt)} (enc g : α → Dt) : ∀ (xs : List α), (∀ x ∈ xs, f (enc x) = some (some (g x))) → lcX f (xs.map enc) = some (xs.map g)
  | [], _ => rfl
  | x :: xs, h => by
    rw [List.map_cons]
    unfold lcX
    rw [h x List.mem_cons_self, lcX_map' enc g xs fun y hy => h y (List.mem_cons_of_mem _ hy)]
    rfl
/-- the same without a test -/
theorem lc_M {α : Type} {own : List (Str × Nat)} {pt : Pt} {src elt : Ex} {ρ : Ev} {D : Dt} (enc g : α → Dt) (xs : List α) (hs : xe src ρ = some D) (hi : items D = some (xs.map enc)) (h : ∀ x ∈ xs, ∃ ρ', bindP pt (enc x) (wipeE ρ (own.map (·.2))) = some ρ' ∧ xe elt ρ' = some (g x)) (hl : xs.length ≤ sizeLine) :
    xe (.lc own pt src (.con (.bool true)) elt) ρ = some (.lst (xs.map g)) := by
  have := lc_T (own := own) (pt := pt) (tst := .con (.bool true)) (elt := elt) enc g (fun _ => true) xs hs hi (fun x hx => by
    obtain ⟨ρ', h1, h2⟩ := h x hx
    unfold lcT
    rw [h1]
    simp [h2]) hl
  rw [this, List.filter_eq_self.mpr (fun _ _ => rfl)]
/-- loops by what is done -/
theorem forX_split {β : Type} {pt : Pt} {body : Ev → Option Fl} (enc : β → Dt) (I : List β → Ev → Prop) (all : List β) (h : ∀ done x rest ρ, all = done ++ x :: rest → I done ρ → ∃ ρ' ρ'', bindP pt (enc x) ρ = some ρ' ∧ body ρ' = some (.nx ρ'') ∧ I (done ++ [x]) ρ'') :
    ∀ (rest done : List β) (ρ : Ev), all = done ++ rest → I done ρ → ∃ ρ', forX pt body (rest.map enc) ρ = some (.nx ρ') ∧ I all ρ'
  | [], done, ρ, e, i => ⟨ρ, rfl, by rw [e, List.append_nil]; exact i⟩
  | x :: rest, done, ρ, e, i => by
    obtain ⟨ρ', ρ'', h1, h2, h3⟩ := h done x rest ρ e i
    obtain ⟨ρ3, h4, h5⟩ := forX_split enc I all h rest (done ++ [x]) ρ'' (by rw [List.append_assoc]; exact e) h3
    refine ⟨ρ3, ?_, h5⟩
    show (bindP pt (enc x) ρ).bind _ = _
    rw [h1, Option.bind_some, h2]
    exact h4
theorem forX_enum {β : Type} {pt : Pt} {body : Ev → Option Fl} (enc : β → Dt) (I : List β → Ev → Prop) (all : List β) (h : ∀ done x rest ρ, all = done ++ x :: rest → I done ρ → ∃ ρ' ρ'', bindP pt (.tup [.int (done.length : Nat), enc x]) ρ = some ρ' ∧ body ρ' = some (.nx ρ'') ∧ I (done ++ [x]) ρ'') :
    ∀ (rest done : List β) (ρ : Ev), all = done ++ rest → I done ρ → ∃ ρ', forX pt body (enumD done.length (rest.map enc)) ρ = some (.nx ρ') ∧ I all ρ'
  | [], done, ρ, e, i => ⟨ρ, rfl, by rw [e, List.append_nil]; exact i⟩
  | x :: rest, done, ρ, e, i => by
    obtain ⟨ρ', ρ'', h1, h2, h3⟩ := h done x rest ρ e i
    obtain ⟨ρ3, h4, h5⟩ := forX_enum enc I all h rest (done ++ [x]) ρ'' (by rw [List.append_assoc]; exact e) h3
    refine ⟨ρ3, ?_, h5⟩
    rw [List.length_append] at h4
    show (bindP pt (.tup [.int (done.length : Nat), enc x]) ρ).bind _ = _
    rw [h1, Option.bind_some, h2]
    exact h4
theorem x_forS {β : Type} {pt : Pt} (enc : β → Dt) (I : List β → Ev → Prop) (all : List β) {D : Dt} (hs : xe src ρ = some D) (hi : items D = some (all.map enc)) (h0 : I [] ρ)
    (h : ∀ done x rest ρ, all = done ++ x :: rest → I done ρ → ∃ ρ' ρ'', bindP pt (enc x) ρ = some ρ' ∧ xs b ρ' = some (.nx ρ'') ∧ I (done ++ [x]) ρ'') (hk : ∀ ρ', I all ρ' → xs rest ρ' = r) : xs (.seq (.for_ pt src b) rest) ρ = r := by
  rw [xs_seq, xs_for, hs, Option.bind_some, hi, Option.bind_some]
  obtain ⟨ρ', h1, h2⟩ := forX_split (pt := pt) (body := xs b) enc I all h all [] ρ rfl h0
  rw [h1]
  exact hk ρ' h2
theorem x_forE {β : Type} {pt : Pt} (enc : β → Dt) (I : List β → Ev → Prop) (all : List β) {D : Dt} (hs : xe src ρ = some D) (hi : items D = some (enumD 0 (all.map enc))) (h0 : I [] ρ)
    (h : ∀ done x rest ρ, all = done ++ x :: rest → I done ρ → ∃ ρ' ρ'', bindP pt (.tup [.int (done.length : Nat), enc x]) ρ = some ρ' ∧ xs b ρ' = some (.nx ρ'') ∧ I (done ++ [x]) ρ'') (hk : ∀ ρ', I all ρ' → xs rest ρ' = r) : xs (.seq (.for_ pt src b) rest) ρ = r := by
  rw [xs_seq, xs_for, hs, Option.bind_some, hi, Option.bind_some]
  obtain ⟨ρ', h1, h2⟩ := forX_enum (pt := pt) (body := xs b) enc I all h all [] ρ rfl h0
  rw [List.length_nil] at h1
  rw [h1]
  exact hk ρ' h2
theorem forX_all {β : Type} {pt : Pt} {body : Ev → Option Fl} (enc : β → Dt) (good : β → Bool) (d : Dt) (I : Ev → Prop) : ∀ (all : List β) (ρ : Ev), I ρ → (∀ x ∈ all, good x = true → ∀ ρ, I ρ → ∃ ρ' ρ'', bindP pt (enc x) ρ = some ρ' ∧ body ρ' = some (.nx ρ'') ∧ I ρ'') →
    (∀ x ∈ all, good x = false → ∀ ρ, I ρ → ∃ ρ', bindP pt (enc x) ρ = some ρ' ∧ body ρ' = some (.rt d)) → (all.all good = true ∧ ∃ ρ', forX pt body (all.map enc) ρ = some (.nx ρ') ∧ I ρ') ∨ (all.all good = false ∧ forX pt body (all.map enc) ρ = some (.rt d))
  | [], ρ, i, _, _ => .inl ⟨rfl, ρ, rfl, i⟩
  | x :: all, ρ, i, hg, hb => by
    cases q : good x with
    | true =>
      obtain ⟨ρ', ρ'', h1, h2, h3⟩ := hg x List.mem_cons_self q ρ i
      have e : forX pt body ((x :: all).map enc) ρ = forX pt body (all.map enc) ρ'' := by
        show (bindP pt (enc x) ρ).bind _ = _
        rw [h1, Option.bind_some, h2]
      rw [e, List.all_cons, q, Bool.true_and]
      exact forX_all enc good d I all ρ'' h3 (fun y hy => hg y (List.mem_cons_of_mem _ hy)) (fun y hy => hb y (List.mem_cons_of_mem _ hy))
    | false =>
      obtain ⟨ρ', h1, h2⟩ := hb x List.mem_cons_self q ρ i
      refine .inr ⟨by rw [List.all_cons, q]; rfl, ?_⟩
      show (bindP pt (enc x) ρ).bind _ = _
      rw [h1, Option.bind_some, h2]
/-- a loop that is left where a thing is not good -/
theorem x_forA {β : Type} {pt : Pt} (enc : β → Dt) (good : β → Bool) (d : Dt) (I : Ev → Prop) (all : List β) {D : Dt} (hs : xe src ρ = some D) (hi : items D = some (all.map enc)) (h0 : I ρ)
    (hg : ∀ x ∈ all, good x = true → ∀ ρ, I ρ → ∃ ρ' ρ'', bindP pt (enc x) ρ = some ρ' ∧ xs b ρ' = some (.nx ρ'') ∧ I ρ'')
    (hb : ∀ x ∈ all, good x = false → ∀ ρ, I ρ → ∃ ρ', bindP pt (enc x) ρ = some ρ' ∧ xs b ρ' = some (.rt d)) (hk : all.all good = true → ∀ ρ', I ρ' → xs rest ρ' = r) (hr : all.all good = false → some (.rt d) = r) : xs (.seq (.for_ pt src b) rest) ρ = r := by
  rw [xs_seq, xs_for, hs, Option.bind_some, hi, Option.bind_some]
  rcases forX_all (pt := pt) (body := xs b) enc good d I all ρ h0 hg hb with ⟨q, ρ', h1, h2⟩ | ⟨q, h1⟩
  · rw [h1]
    exact hk q ρ' h2
  · rw [h1]
    exact hr q
theorem x_reto {ds : List Dt} (h : ρ[i]? = some (.ow ds)) : xs (.seq (.reto i) rest) ρ = some (.rt (.lst ds)) := by
  rw [xs_seq, xs_reto, h]
theorem x_par {oi oj : Bool} {j' : Nat} {e1 e2 : Ex} {x y : Dt} {s t : Sl} (h1 : xe e1 ρ = some x) (h2 : xe e2 ρ = some y) (h3 : slotOf oi x = some s) (h4 : slotOf oj y = some t) (hk : xs rest ((ρ.set i s).set j' t) = r) : xs (.seq (.par i j' oi oj e1 e2) rest) ρ = r := by
  rw [xs_seq, xs_par, h1, Option.bind_some, h2, Option.bind_some, h3, Option.bind_some, h4]
  exact hk
end
/-- a comprehension that draws, by what holds ahead of each turn -/
theorem wpLc_inv {turn : Dt → Store → (Option Dt → Store → Prop) → Prop} (hm : ∀ x S k k', (∀ r S, k r S → k' r S) → turn x S k → turn x S k') (I : Nat → List Dt → Store → Prop) : ∀ (xs : List Dt) (i : Nat) (acc : List Dt) (S : Store) (Q : List Dt → Store → Prop), I i acc S →
    (∀ (j : Nat) (x : Dt) (acc : List Dt) (S : Store), xs[j]? = some x → I (i + j) acc S → turn x S fun r S1 => match r with
      | some d => acc.length < sizeLine ∧ I (i + j + 1) (acc ++ [d]) S1
      | none => I (i + j + 1) acc S1) → (∀ acc S, I (i + xs.length) acc S → Q acc S) → wpLc turn xs acc S Q
  | [], i, acc, S, Q, h0, _, hq => hq _ _ h0
  | x :: xs, i, acc, S, Q, h0, ht, hq => by
    have next : ∀ acc S1, I (i + 1) acc S1 → wpLc turn xs acc S1 Q := fun acc S1 h => wpLc_inv hm I xs (i + 1) acc S1 Q h (fun j y acc S e h => by
      have q := ht (j + 1) y acc S e (by rw [show i + (j + 1) = i + 1 + j by omega]; exact h)
      rw [show i + (j + 1) + 1 = i + 1 + j + 1 by omega] at q
      exact q) fun acc S h => hq acc S (by rw [List.length_cons, show i + (xs.length + 1) = i + 1 + xs.length by omega]; exact h)
    refine hm _ _ _ _ (fun r S1 q => ?_) (ht 0 x acc S rfl h0)
    cases r with
    | none => exact next _ _ q
    | some d => exact ⟨q.1, next _ _ q.2⟩
theorem wp_lc_inv {own : List (Str × Nat)} {pt : Pt} {src elt : Ex} {R : XR} {ρ : Ev} {S : Store} {Q : DK} (I : List Dt → Nat → List Dt → Store → Prop) (hs : wp src R ρ S fun d S1 => opt (items d) fun ds => I ds 0 [] S1)
    (ht : ∀ (ds : List Dt) (j : Nat) (x : Dt) (acc : List Dt) (S : Store), ds[j]? = some x → I ds j acc S → opt (bindP pt x (wipeE ρ (own.map (·.2)))) fun ρ' => wp elt (fun _ _ => False) ρ' S fun d S1 => acc.length < sizeLine ∧ I ds (j + 1) (acc ++ [d]) S1)
    (hq : ∀ ds acc S, I ds ds.length acc S → Q (.lst acc) S) : wp (.lc own pt src (.con (.bool true)) elt) R ρ S Q := by
  refine wp_mono src _ _ _ _ _ _ (fun _ _ z => z) (fun d S1 q => opt_mono (fun ds q => ?_) q) hs
  refine wpLc_inv (turn := fun x S2 k => opt (bindP pt x (wipeE ρ (own.map (·.2)))) fun ρ' => wp (.con (.bool true)) (fun _ _ => False) ρ' S2 fun t S3 => opt (tru t) fun c => match c with
        | true => wp elt (fun _ _ => False) ρ' S3 fun d S4 => k (some d) S4
        | false => k none S3) ?_ (I ds) ds 0 [] S1 _ q ?_ fun acc S h => hq ds acc S (by rw [Nat.zero_add] at h; exact h)
  · intro x S k k' hk q
    refine opt_mono (fun ρ' q => ?_) q
    have q' : wp elt (fun _ _ => False) ρ' S fun d S4 => k (some d) S4 := q
    show wp elt (fun _ _ => False) ρ' S fun d S4 => k' (some d) S4
    exact wp_mono _ _ _ _ _ _ _ (fun _ _ z => z) (fun d S3 => hk _ S3) q'
  · intro j x acc S e h
    rw [Nat.zero_add] at h ⊢
    exact ht ds j x acc S e h
end Vr

/-! Rows and tables as typed data; what steps do to them. -/
namespace Vr
open PySem PySem.Spec PyProof.Rows L2

def colD (hs : List Str) : Dt := .tup (strL hs)
def cellD (cs : List Str) : Dt := .tup (strL cs)
abbrev RowS := List Str × Bool
def rsD (r : RowS) : Dt := .tup [cellD r.1, .bl r.2]
def wD : Option Str → Dt
  | none => .non
  | some w => .str w
def cell (hs cs : List Str) (c : Str) : Str := cs.getD (hs.idxOf c) ""
def putc (hs cs : List Str) (c w : Str) : List Str := cs.set (hs.idxOf c) w
def Tst.col : Tst → Str
  | .is c _ => c
  | .same c _ => c
  | .above c => c
def meetsT (hs : List Str) (t : Tst) (cs : List Str) (kept : Option Str) : Bool := match t with
  | .is c w => decide (cell hs cs c = w)
  | .same c o => decide (cell hs cs c = cell hs cs o)
  | .above c => decide (kept = some (cell hs cs c))
/-- the word that an edit puts into its column -/
def hereT (hs : List Str) (s : Stp) (cs : List Str) (kept : Option Str) : Str := match s with
  | .put _ w => w
  | .take _ o => cell hs cs o
  | .first c => kept.getD (cell hs cs c)
  | .down c => if cell hs cs c = "" then kept.getD (cell hs cs c) else cell hs cs c
  | _ => ""
def Stp.ecol : Stp → Str
  | .put c _ => c
  | .take c _ => c
  | .first c => c
  | .down c => c
  | .show_ t => t.col
  | .hide_ t => t.col
  | _ => ""
/-- what a row becomes by a step, and what the step keeps -/
def rowT (hs : List Str) (s : Stp) (kept : Option Str) (r : RowS) : List RowS × Option Str :=
  if s = .all_ then ([(r.1, true)], kept) else if r.2 = false then ([(r.1, false)], kept) else match s with
  | .show_ t => ([(r.1, meetsT hs t r.1 kept)], some (cell hs r.1 t.col))
  | .hide_ t => ([(r.1, !meetsT hs t r.1 kept)], some (cell hs r.1 t.col))
  | .double_ => ([(r.1, true), (r.1, true)], kept)
  | .drop_ => ([], kept)
  | .put c w => ([(putc hs r.1 c w, true)], some w)
  | .take c o => ([(putc hs r.1 c (cell hs r.1 o), true)], some (cell hs r.1 o))
  | .first c => ([(putc hs r.1 c (hereT hs (.first c) r.1 kept), true)], some (hereT hs (.first c) r.1 kept))
  | .down c => ([(putc hs r.1 c (hereT hs (.down c) r.1 kept), true)], some (hereT hs (.down c) r.1 kept))
  | _ => ([], kept)
def scanT {κ α β : Type} (f : κ → α → List β × κ) : List α → κ → List β × κ
  | [], k => ([], k)
  | a :: as, k => ((f k a).1 ++ (scanT f as (f k a).2).1, (scanT f as (f k a).2).2)
def stpsT (hs : List Str) (s : Stp) (rows : List RowS) (kept : Option Str) : List RowS × Option Str := scanT (rowT hs s) rows kept
/-- what rows become by steps with a memory, and the memory behind it -/
def rowsT (hs : List Str) : List Stp → List (Option Str) → List RowS → List RowS × List (Option Str)
  | [], _, rows => (rows, [])
  | s :: ss, mem, rows => if remT s = true then
      ((rowsT hs ss mem.tail (stpsT hs s rows (mem.headD none)).1).1, (stpsT hs s rows (mem.headD none)).2 :: (rowsT hs ss mem.tail (stpsT hs s rows (mem.headD none)).1).2)
    else rowsT hs ss mem (stpsT hs s rows none).1
def rowOnT (hs : List Str) (ss : List Stp) (mem : List (Option Str)) (cs : List Str) : List RowS × List (Option Str) := rowsT hs ss mem [(cs, true)]
def allT (hs : List Str) (ss : List Stp) : List (Option Str) → List (List Str) → List (List RowS) × List (Option Str)
  | mem, [] => ([], mem)
  | mem, cs :: t => ((rowOnT hs ss mem cs).1 :: (allT hs ss (rowOnT hs ss mem cs).2 t).1, (allT hs ss (rowOnT hs ss mem cs).2 t).2)
def noneT (ss : List Stp) : List (Option Str) := (ss.filter remT).map fun _ => none
def resT (hs : List Str) (ss : List Stp) (t : List (List Str)) : List RowS := (allT hs ss (noneT ss) t).1.flatten

theorem wD_some {x : Str} : wD (some x) = .str x := rfl
theorem wD_none : wD none = .non := rfl
@[simp] theorem isN_s {x : Str} : cmpD .isN (.str x) .non = some false := rfl
@[simp] theorem notN_s {x : Str} : cmpD .notN (.str x) .non = some true := rfl
@[simp] theorem isN_n : cmpD .isN .non .non = some true := rfl
@[simp] theorem notN_n : cmpD .notN .non .non = some false := rfl
/-! ### scans -/
section
variable {κ α β γ : Type} {f : κ → α → List β × κ}
theorem scan_append : ∀ (xs ys : List α) (k : κ), scanT f (xs ++ ys) k = ((scanT f xs k).1 ++ (scanT f ys (scanT f xs k).2).1, (scanT f ys (scanT f xs k).2).2)
  | [], ys, k => rfl
  | x :: xs, ys, k => by
    show ((f k x).1 ++ (scanT f (xs ++ ys) (f k x).2).1, (scanT f (xs ++ ys) (f k x).2).2) = _
    rw [scan_append xs ys]
    show _ = (((f k x).1 ++ (scanT f xs (f k x).2).1) ++ _, _)
    rw [List.append_assoc]
    rfl
theorem scan_len (n : Nat) (h : ∀ k a, (f k a).1.length ≤ n) : ∀ (xs : List α) (k : κ), (scanT f xs k).1.length ≤ n * xs.length
  | [], k => by simp [scanT]
  | x :: xs, k => by
    show ((f k x).1 ++ (scanT f xs (f k x).2).1).length ≤ _
    have h1 := h k x
    have h2 := scan_len n h xs (f k x).2
    rw [List.length_append, List.length_cons, Nat.mul_succ]
    omega
end
theorem rowT_len (hs : List Str) (s : Stp) (k : Option Str) (r : RowS) : (rowT hs s k r).1.length ≤ if s = .double_ then 2 else 1 := by
  unfold rowT
  by_cases h1 : s = .all_
  · subst h1; simp
  · rw [if_neg h1]
    by_cases h2 : r.2 = false
    · rw [if_pos h2]
      split <;> simp
    · rw [if_neg h2]
      cases s <;> simp
/-- rows as wide as the columns -/
def WideT (hs : List Str) (rows : List RowS) : Prop := ∀ r ∈ rows, r.1.length = hs.length
theorem rowT_wide {hs : List Str} {s : Stp} {k : Option Str} {r : RowS} (h : r.1.length = hs.length) : WideT hs (rowT hs s k r).1 := by
  intro q hq
  have put : ∀ c w, (putc hs r.1 c w).length = hs.length := fun c w => by unfold putc; rw [List.length_set, h]
  unfold rowT at hq
  by_cases h1 : s = .all_
  · rw [if_pos h1, List.mem_singleton] at hq
    rw [hq]
    exact h
  · rw [if_neg h1] at hq
    by_cases h2 : r.2 = false
    · rw [if_pos h2, List.mem_singleton] at hq
      rw [hq]
      exact h
    · rw [if_neg h2] at hq
      cases s with
      | double_ =>
        simp at hq
        rw [hq]
        exact h
      | drop_ => cases hq
      | all_ => cases hq
      | again_ => cases hq
      | _ =>
        rw [List.mem_singleton] at hq
        rw [hq]
        first
          | exact h
          | exact put _ _
theorem stpsT_wide {hs : List Str} {s : Stp} : ∀ {rows : List RowS} {k : Option Str}, WideT hs rows → WideT hs (stpsT hs s rows k).1
  | [], k, _ => fun r hr => nomatch hr
  | r :: rows, k, h => fun q hq => by
    rcases List.mem_append.mp (show q ∈ (rowT hs s k r).1 ++ (scanT (rowT hs s) rows (rowT hs s k r).2).1 from hq) with hq | hq
    · exact rowT_wide (h r List.mem_cons_self) q hq
    · exact stpsT_wide (rows := rows) (fun x hx => h x (List.mem_cons_of_mem _ hx)) q hq
/-! ### plain steps -/
structure PlI (all : List Stp) (n c : Nat) (st : List Stp × List Stp) : Prop where
  a : ∀ s ∈ st.1, s ≠ .again_ ∧ (s = .all_ ∨ s ∈ all)
  b : ∀ s ∈ st.2, isFT s = true ∧ s ∈ all
  cnt : st.1.count .double_ = c
  l2 : st.2.length ≤ n
  l1 : st.1.length ≤ n * (all.length + 1)
theorem count_flt : ∀ (l : List Stp), (∀ s ∈ l, isFT s = true) → l.count .double_ = 0
  | [], _ => rfl
  | s :: l, h => by
    have h1 := h s List.mem_cons_self
    have h2 := count_flt l fun x hx => h x (List.mem_cons_of_mem _ hx)
    rw [List.count_cons, h2]
    cases s <;> first | rfl | cases h1
theorem plI_step {all : List Stp} {n c : Nat} {st : List Stp × List Stp} {s : Stp} (h : PlI all n c st) (hs : s ∈ all) (hn : n + 1 ≤ all.length) : PlI all (n + 1) (c + [s].count .double_) (pstepT st s) := by
  obtain ⟨h1, h2, h3, h4, h5⟩ := h
  refine ⟨fun x hx => ?_, fun x hx => ?_, ?_, ?_, ?_⟩
  · unfold pstepT at hx
    rcases List.mem_append.mp hx with hx | hx
    · exact h1 x hx
    · by_cases q : s = .again_
      · rw [if_pos q] at hx
        rcases List.mem_cons.mp hx with rfl | hx
        · exact ⟨(fun z => nomatch z), .inl rfl⟩
        · refine ⟨fun z => ?_, .inr (h2 x hx).2⟩
          have := (h2 x hx).1
          rw [z] at this
          cases this
      · rw [if_neg q, List.mem_singleton] at hx
        rw [hx]
        exact ⟨q, .inr hs⟩
  · unfold pstepT at hx
    dsimp only at hx
    split at hx
    · cases hx
    · split at hx
      · rename_i q
        rcases List.mem_append.mp hx with hx | hx
        · exact h2 x hx
        · rw [List.mem_singleton] at hx
          rw [hx]
          exact ⟨q, hs⟩
      · exact h2 x hx
  · unfold pstepT
    dsimp only
    rw [List.count_append, h3]
    by_cases q : s = .again_
    · rw [if_pos q, q, List.count_cons, count_flt st.2 fun x hx => (h2 x hx).1]
      rfl
    · rw [if_neg q]
  · unfold pstepT
    dsimp only
    split
    · simp
    · split
      · simp; omega
      · omega
  · unfold pstepT
    dsimp only
    rw [List.length_append, Nat.succ_mul]
    split
    · rw [List.length_cons]
      omega
    · rw [List.length_singleton]
      omega
theorem plI_fold {all : List Stp} : ∀ (rest : List Stp) (n c : Nat) (st : List Stp × List Stp), PlI all n c st → (∀ s ∈ rest, s ∈ all) → n + rest.length ≤ all.length → PlI all (n + rest.length) (c + rest.count .double_) (rest.foldl pstepT st)
  | [], n, c, st, h, _, _ => h
  | s :: rest, n, c, st, h, hs, hn => by
    rw [List.length_cons] at hn
    have h1 := plI_step h (hs s List.mem_cons_self) (by omega)
    have h2 := plI_fold rest (n + 1) _ _ h1 (fun x hx => hs x (List.mem_cons_of_mem _ hx)) (by omega)
    have e1 : n + (s :: rest).length = n + 1 + rest.length := by rw [List.length_cons]; omega
    have e2 : c + (s :: rest).count .double_ = c + [s].count .double_ + rest.count .double_ := by
      rw [List.count_cons, List.count_cons]
      simp
      omega
    rw [e1, e2]
    exact h2
theorem plainT_inv (sts : List Stp) : PlI sts sts.length (sts.count .double_) (sts.foldl pstepT ([], [])) := by
  have := plI_fold (all := sts) sts 0 0 ([], []) ⟨(fun _ h => nomatch h), (fun _ h => nomatch h), rfl, Nat.le_refl _, by simp⟩ (fun _ h => h) (by omega)
  rwa [Nat.zero_add, Nat.zero_add] at this
/-! ### rows with the place that they come from -/
abbrev RowO := RowS × Nat
def roD (r : RowO) : Dt := .tup [cellD r.1.1, .bl r.1.2, .int (r.2 : Nat)]
def tagF {κ α β τ : Type} (f : κ → α → List β × κ) (k : κ) (r : α × τ) : List (β × τ) × κ := ((f k r.1).1.map fun b => (b, r.2), (f k r.1).2)
def doneO (hs : List Str) (rows : List RowO) (s : Stp) : List RowO := (scanT (tagF (rowT hs s)) rows none).1
def madeO (hs : List Str) (ss : List Stp) (rows : List RowO) : List RowO := ss.foldl (doneO hs) rows
def begO (t : List (List Str)) : List RowO := t.zipIdx.map fun p => ((p.1, true), p.2)
/-- the word that the last row that is seen has -/
def lastW (hs : List Str) (c : Str) (rows : List RowO) : Option Str := (rows.filter fun r => r.1.2).getLast?.map fun r => cell hs r.1.1 c
theorem lastW_snoc {hs : List Str} {c : Str} {rows : List RowO} {r : RowO} : lastW hs c (rows ++ [r]) = if r.1.2 = true then some (cell hs r.1.1 c) else lastW hs c rows := by
  unfold lastW
  by_cases h : r.1.2 = true
  · rw [if_pos h]
    simp [List.filter_append, h]
  · rw [if_neg h]
    simp [List.filter_append, h]
theorem snoc_ind {α : Type} {P : List α → Prop} (h0 : P []) (h1 : ∀ xs x, P xs → P (xs ++ [x])) (xs : List α) : P xs := by
  have key : ∀ ys : List α, P ys.reverse := fun ys => by
    induction ys with
    | nil => exact h0
    | cons y ys ih =>
      rw [List.reverse_cons]
      exact h1 _ _ ih
  have := key xs.reverse
  rwa [List.reverse_reverse] at this
theorem scan_snoc {κ α β : Type} {f : κ → α → List β × κ} (xs : List α) (x : α) (k : κ) : scanT f (xs ++ [x]) k = ((scanT f xs k).1 ++ (f (scanT f xs k).2 x).1, (f (scanT f xs k).2 x).2) := by
  rw [scan_append]
  simp [scanT]
def Stp.tst : Stp → Option Tst
  | .show_ t => some t
  | .hide_ t => some t
  | _ => none
/-- what a filter keeps is the word of the last row that is seen -/
theorem kept_flt {hs : List Str} {s : Stp} {t : Tst} (ht : s.tst = some t) (rows : List RowO) : (scanT (tagF (rowT hs s)) rows none).2 = lastW hs t.col rows := by
  refine snoc_ind (P := fun rows => (scanT (tagF (rowT hs s)) rows none).2 = lastW hs t.col rows) rfl (fun rows r ih => ?_) rows
  · rw [scan_snoc, lastW_snoc]
    show (rowT hs s (scanT (tagF (rowT hs s)) rows none).2 r.1).2 = _
    rw [ih]
    cases s with
    | show_ t' =>
      cases ht
      unfold rowT
      by_cases h : r.1.2 = true
      · rw [if_pos h]
        simp [h]
      · rw [if_neg h]
        simp [h]
    | hide_ t' =>
      cases ht
      unfold rowT
      by_cases h : r.1.2 = true
      · rw [if_pos h]
        simp [h]
      · rw [if_neg h]
        simp [h]
    | _ => cases ht
end Vr

/-! Row by row is the whole sheet at once. -/
namespace Vr
open PySem PySem.Spec PyProof.Rows L2

def allG (hs : List Str) (ss : List Stp) : List (Option Str) → List (List RowS) → List (List RowS) × List (Option Str)
  | mem, [] => ([], mem)
  | mem, g :: gs => ((rowsT hs ss mem g).1 :: (allG hs ss (rowsT hs ss mem g).2 gs).1, (allG hs ss (rowsT hs ss mem g).2 gs).2)
theorem allT_G {hs : List Str} {ss : List Stp} : ∀ (t : List (List Str)) (mem : List (Option Str)), allT hs ss mem t = allG hs ss mem (t.map fun cs => [(cs, true)])
  | [], _ => rfl
  | cs :: t, mem => by
    show (_, _) = (_, _)
    rw [allT_G t]
    rfl
def scanG (hs : List Str) (s : Stp) : Option Str → List (List RowS) → List (List RowS) × Option Str
  | k, [] => ([], k)
  | k, g :: gs => ((stpsT hs s g k).1 :: (scanG hs s (stpsT hs s g k).2 gs).1, (scanG hs s (stpsT hs s g k).2 gs).2)
/-- a step without a memory does not look at what is kept -/
theorem rowT_free {hs : List Str} {s : Stp} (h : remT s = false) (k k' : Option Str) (r : RowS) : (rowT hs s k r).1 = (rowT hs s k' r).1 := by
  unfold rowT
  cases s with
  | show_ t =>
    cases t with
    | above c => cases h
    | is c w => by_cases hb : r.2 = false <;> simp [hb, meetsT]
    | same c o => by_cases hb : r.2 = false <;> simp [hb, meetsT]
  | hide_ t =>
    cases t with
    | above c => cases h
    | is c w => by_cases hb : r.2 = false <;> simp [hb, meetsT]
    | same c o => by_cases hb : r.2 = false <;> simp [hb, meetsT]
  | first c => cases h
  | down c => cases h
  | _ => by_cases hb : r.2 = false <;> simp [hb]
theorem stpsT_free {hs : List Str} {s : Stp} (h : remT s = false) : ∀ (rows : List RowS) (k k' : Option Str), (stpsT hs s rows k).1 = (stpsT hs s rows k').1
  | [], _, _ => rfl
  | r :: rows, k, k' => by
    show (rowT hs s k r).1 ++ (stpsT hs s rows (rowT hs s k r).2).1 = (rowT hs s k' r).1 ++ (stpsT hs s rows (rowT hs s k' r).2).1
    rw [rowT_free h k k', stpsT_free h rows _ (rowT hs s k' r).2]
theorem scanG_free {hs : List Str} {s : Stp} (h : remT s = false) : ∀ (gs : List (List RowS)) (k : Option Str), (scanG hs s k gs).1 = gs.map fun g => (stpsT hs s g none).1
  | [], _ => rfl
  | g :: gs, k => by
    show (stpsT hs s g k).1 :: (scanG hs s (stpsT hs s g k).2 gs).1 = _
    rw [scanG_free h gs, stpsT_free h g k none]
    rfl
theorem allG_rem {hs : List Str} {s : Stp} {ss : List Stp} (h : remT s = true) : ∀ (gs : List (List RowS)) (k : Option Str) (mem : List (Option Str)), allG hs (s :: ss) (k :: mem) gs = ((allG hs ss mem (scanG hs s k gs).1).1, (scanG hs s k gs).2 :: (allG hs ss mem (scanG hs s k gs).1).2)
  | [], _, _ => rfl
  | g :: gs, k, mem => by
    have e : rowsT hs (s :: ss) (k :: mem) g = ((rowsT hs ss mem (stpsT hs s g k).1).1, (stpsT hs s g k).2 :: (rowsT hs ss mem (stpsT hs s g k).1).2) := by
      show (if remT s = true then _ else _) = _
      rw [if_pos h]
      rfl
    show (_, _) = (_, _)
    rw [e]
    dsimp only
    rw [allG_rem h gs]
    rfl
theorem allG_no {hs : List Str} {s : Stp} {ss : List Stp} (h : remT s = false) : ∀ (gs : List (List RowS)) (mem : List (Option Str)), allG hs (s :: ss) mem gs = allG hs ss mem (gs.map fun g => (stpsT hs s g none).1)
  | [], _ => rfl
  | g :: gs, mem => by
    have e : rowsT hs (s :: ss) mem g = rowsT hs ss mem (stpsT hs s g none).1 := by
      show (if remT s = true then _ else _) = _
      rw [if_neg (by rw [h]; exact Bool.false_ne_true)]
    show (_, _) = (_, _)
    rw [e, allG_no h gs]
def grpO (gs : List (List RowS)) (j : Nat) : List RowO := (gs.zipIdx j).flatMap fun p => p.1.map fun r => (r, p.2)
theorem grpO_cons (g : List RowS) (gs : List (List RowS)) (j : Nat) : grpO (g :: gs) j = g.map (fun r => (r, j)) ++ grpO gs (j + 1) := by
  unfold grpO
  rw [List.zipIdx_cons, List.flatMap_cons]
theorem scan_tag {κ α β : Type} {f : κ → α → List β × κ} {o : Nat} : ∀ (g : List α) (k : κ), scanT (tagF f) (g.map fun r => (r, o)) k = ((scanT f g k).1.map (fun b => (b, o)), (scanT f g k).2)
  | [], _ => rfl
  | a :: g, k => by
    show (_, _) = (_, _)
    rw [show (List.map (fun r => (r, o)) g) = g.map fun r => (r, o) from rfl]
    rw [scan_tag g]
    simp [tagF, scanT]
theorem done_grp {hs : List Str} {s : Stp} : ∀ (gs : List (List RowS)) (j : Nat) (k : Option Str), scanT (tagF (rowT hs s)) (grpO gs j) k = (grpO (scanG hs s k gs).1 j, (scanG hs s k gs).2)
  | [], _, _ => rfl
  | g :: gs, j, k => by
    rw [grpO_cons, scan_append, scan_tag]
    dsimp only
    rw [done_grp gs]
    rw [show (scanG hs s k (g :: gs)).1 = (stpsT hs s g k).1 :: (scanG hs s (stpsT hs s g k).2 gs).1 from rfl, grpO_cons]
    rfl
theorem made_grp {hs : List Str} : ∀ (ss : List Stp) (gs : List (List RowS)) (j : Nat), madeO hs ss (grpO gs j) = grpO (allG hs ss (noneT ss) gs).1 j
  | [], gs, j => by
    have e : ∀ gs : List (List RowS), (allG hs [] [] gs).1 = gs := fun gs => by
      induction gs with
      | nil => rfl
      | cons g gs ih =>
        show (rowsT hs [] [] g).1 :: (allG hs [] (rowsT hs [] [] g).2 gs).1 = _
        rw [show (rowsT hs [] [] g).1 = g from rfl, show (rowsT hs [] [] g).2 = [] from rfl, ih]
    show grpO gs j = grpO (allG hs [] [] gs).1 j
    rw [e]
  | s :: ss, gs, j => by
    show madeO hs ss (doneO hs (grpO gs j) s) = _
    have e1 : doneO hs (grpO gs j) s = grpO (scanG hs s none gs).1 j := by
      unfold doneO
      rw [done_grp]
    rw [e1, made_grp ss]
    by_cases h : remT s = true
    · have e2 : noneT (s :: ss) = none :: noneT ss := by
        unfold noneT
        rw [List.filter_cons_of_pos h]
        rfl
      rw [e2, allG_rem h]
    · have h' : remT s = false := by simpa using h
      have e2 : noneT (s :: ss) = noneT ss := by
        unfold noneT
        rw [List.filter_cons_of_neg h]
      rw [e2, allG_no h', scanG_free h']
theorem begO_grp (t : List (List Str)) : begO t = grpO (t.map fun cs => [(cs, true)]) 0 := by
  have key : ∀ (t : List (List Str)) (j : Nat), ((t.zipIdx j).map fun p => ((p.1, true), p.2)) = grpO (t.map fun cs => [(cs, true)]) j := fun t => by
    induction t with
    | nil => intro j; rfl
    | cons cs t ih =>
      intro j
      rw [List.zipIdx_cons, List.map_cons, List.map_cons, grpO_cons, ih]
      rfl
  exact key t 0
/-- the whole sheet at once is row by row -/
theorem made_all (hs : List Str) (ss : List Stp) (t : List (List Str)) : madeO hs ss (begO t) = grpO (allT hs ss (noneT ss) t).1 0 := by
  rw [begO_grp, made_grp, allT_G]
theorem grpO_fst : ∀ (gs : List (List RowS)) (j : Nat), (grpO gs j).map Prod.fst = gs.flatten
  | [], _ => rfl
  | g :: gs, j => by
    rw [grpO_cons, List.map_append, grpO_fst gs, List.map_map, List.flatten_cons]
    congr 1
    exact List.map_id _
theorem made_fst (hs : List Str) (ss : List Stp) (t : List (List Str)) : (madeO hs ss (begO t)).map Prod.fst = resT hs ss t := by
  rw [made_all, grpO_fst]
  rfl
theorem grpO_snd (gs : List (List RowS)) (j : Nat) : (grpO gs j).map Prod.snd = (gs.zipIdx j).flatMap fun p => p.1.map fun _ => p.2 := by
  unfold grpO
  rw [List.map_flatMap]
  congr 1
  funext p
  rw [List.map_map]
  rfl
/-! ### memories -/
def memL (hs : List Str) : List Stp → List RowO → List (Option Str)
  | [], _ => []
  | s :: ss, rows => if remT s = true then (scanT (tagF (rowT hs s)) rows none).2 :: memL hs ss (doneO hs rows s) else memL hs ss (doneO hs rows s)
theorem mem_grp {hs : List Str} : ∀ (ss : List Stp) (gs : List (List RowS)) (j : Nat), (allG hs ss (noneT ss) gs).2 = memL hs ss (grpO gs j)
  | [], gs, j => by
    have e : ∀ gs : List (List RowS), (allG hs [] [] gs).2 = [] := fun gs => by
      induction gs with
      | nil => rfl
      | cons g gs ih =>
        show (allG hs [] (rowsT hs [] [] g).2 gs).2 = _
        rw [show (rowsT hs [] [] g).2 = [] from rfl, ih]
    exact e gs
  | s :: ss, gs, j => by
    have e1 : doneO hs (grpO gs j) s = grpO (scanG hs s none gs).1 j := by
      unfold doneO
      rw [done_grp]
    unfold memL
    rw [e1]
    by_cases h : remT s = true
    · have e2 : noneT (s :: ss) = none :: noneT ss := by
        unfold noneT
        rw [List.filter_cons_of_pos h]
        rfl
      rw [if_pos h, e2, allG_rem h, ← mem_grp ss, done_grp]
    · have h' : remT s = false := by simpa using h
      have e2 : noneT (s :: ss) = noneT ss := by
        unfold noneT
        rw [List.filter_cons_of_neg h]
      rw [if_neg h, e2, allG_no h', ← mem_grp ss, scanG_free h']
theorem mem_all (hs : List Str) (ss : List Stp) (t : List (List Str)) : (allT hs ss (noneT ss) t).2 = memL hs ss (begO t) := by
  rw [begO_grp, allT_G, mem_grp]
theorem allT_snoc {hs : List Str} {ss : List Stp} (cs : List Str) : ∀ (t : List (List Str)) (mem : List (Option Str)), allT hs ss mem (t ++ [cs]) = ((allT hs ss mem t).1 ++ [(rowOnT hs ss (allT hs ss mem t).2 cs).1], (rowOnT hs ss (allT hs ss mem t).2 cs).2)
  | [], mem => rfl
  | c :: t, mem => by
    have e : allT hs ss mem ((c :: t) ++ [cs]) = ((rowOnT hs ss mem c).1 :: (allT hs ss (rowOnT hs ss mem c).2 (t ++ [cs])).1, (allT hs ss (rowOnT hs ss mem c).2 (t ++ [cs])).2) := rfl
    rw [e, allT_snoc cs t]
    rfl
theorem kept_down {hs : List Str} {c : Str} (hc : c ∈ hs) (rows : List RowO) (hw : ∀ r ∈ rows, r.1.1.length = hs.length) : (scanT (tagF (rowT hs (.down c))) rows none).2 = lastW hs c (scanT (tagF (rowT hs (.down c))) rows none).1 := by
  have key : ∀ rows : List RowO, (∀ r ∈ rows, r.1.1.length = hs.length) → (scanT (tagF (rowT hs (.down c))) rows none).2 = lastW hs c (scanT (tagF (rowT hs (.down c))) rows none).1 := by
    refine snoc_ind (P := fun rows => (∀ r ∈ rows, r.1.1.length = hs.length) → (scanT (tagF (rowT hs (.down c))) rows none).2 = lastW hs c (scanT (tagF (rowT hs (.down c))) rows none).1) (fun _ => rfl) fun rows r ih h => ?_
    have ih := ih fun x hx => h x (List.mem_append_left _ hx)
    have hr := h r (by simp)
    rw [scan_snoc]
    dsimp only
    obtain ⟨⟨cs, b⟩, o⟩ := r
    have hr : cs.length = hs.length := hr
    obtain ⟨k, hk⟩ : ∃ k, k = (scanT (tagF (rowT hs (.down c))) rows none).2 := ⟨_, rfl⟩
    rw [← hk] at ih ⊢
    cases b with
    | false =>
      have e : tagF (rowT hs (.down c)) k ((cs, false), o) = ([((cs, false), o)], k) := rfl
      rw [e, lastW_snoc, ih]
      rfl
    | true =>
      have e : tagF (rowT hs (.down c)) k ((cs, true), o) = ([((putc hs cs c (hereT hs (.down c) cs k), true), o)], some (hereT hs (.down c) cs k)) := rfl
      rw [e, lastW_snoc]
      have h1 : hs.idxOf c < cs.length := by rw [hr]; exact List.idxOf_lt_length_of_mem hc
      have q : cell hs (putc hs cs c (hereT hs (.down c) cs k)) c = hereT hs (.down c) cs k := by
        unfold cell putc
        simp [List.getD, h1]
      simp [q]
  exact key rows hw
end Vr

/-! Sheets by typed data; methods by data. -/
namespace Vr
open PySem PySem.Spec PyProof.Rows L2

/-- a comprehension over a source that is read in the store, its turns computed -/
theorem wp_lcX {own : List (Str × Nat)} {pt : Pt} {src tst elt : Ex} {R : XR} {ρ : Ev} {S : Store} {Q : DK} (h : wp src R ρ S fun d S1 => ∃ ds acc, items d = some ds ∧ lcX (lcT own pt tst elt ρ) ds = some acc ∧ acc.length ≤ sizeLine ∧ Q (.lst acc) S1) : wp (.lc own pt src tst elt) R ρ S Q := by
  refine wp_mono src _ _ _ _ _ _ (fun _ _ z => z) (fun d S1 ⟨ds, acc, e1, e2, e3, q⟩ => ?_) h
  rw [e1]
  refine lcX_ok (f := lcT own pt tst elt ρ) (fun x r k hx hk => ?_) ds [] acc _ e2 (by simpa using e3) (by simpa using q)
  unfold lcT at hx
  obtain ⟨ρ', e1, hx⟩ := bind_some hx
  obtain ⟨t, e2, hx⟩ := bind_some hx
  rw [e1]
  refine xe_ok _ _ ρ' S1 _ t e2 ?_
  split at hx
  · rename_i e3
    obtain ⟨d', e4, rfl⟩ := map_some' hx
    rw [e3]
    exact xe_ok _ _ ρ' S1 _ d' e4 hk
  · rename_i e3
    cases hx
    rw [e3]
    exact hk
  · cases hx
/-- the turns of a comprehension over typed data -/
theorem lcX_T {α : Type} {own : List (Str × Nat)} {pt : Pt} {tst elt : Ex} {ρ : Ev} (enc g : α → Dt) (p : α → Bool) : ∀ (xs : List α), (∀ x ∈ xs, lcT own pt tst elt ρ (enc x) = some (if p x = true then some (g x) else none)) → lcX (lcT own pt tst elt ρ) (xs.map enc) = some ((xs.filter p).map g)
  | [], _ => rfl
  | x :: xs, h => by
    have ih := lcX_T enc g p xs fun y hy => h y (List.mem_cons_of_mem _ hy)
    rw [List.map_cons]
    unfold lcX
    rw [h x List.mem_cons_self]
    by_cases q : p x = true
    · rw [if_pos q, List.filter_cons_of_pos q, ih]
      rfl
    · rw [if_neg q, List.filter_cons_of_neg q]
      exact ih

theorem enumD_zz {α : Type} (enc : α → Dt) : ∀ (xs : List α) (k : Nat), enumD k (xs.map enc) = ((xs.zipIdx k).map fun p => .tup [.int (p.2 : Nat), enc p.1])
  | [], k => rfl
  | x :: xs, k => by
    rw [List.map_cons, enumD, enumD_zz enc xs, List.zipIdx_cons, List.map_cons]
/-! ### statements, one by one, in a store -/
section
variable {R : XR} {ρ : Ev} {S : Store} {D : Ed} {i j k : Nat} {e t : Ex} {a b rest s : Sm} {d : Dt} {c x : Str} {fs : List (Str × Dt)}
theorem w_exp (h : xe e ρ = some d) (q : wps rest R ρ S D) : wps (.seq (.exp e) rest) R ρ S D := by
  rw [wps_seq, wps_exp]
  exact xe_ok _ _ _ _ _ _ h q
theorem w_asg (h : xe e ρ = some d) (q : wps rest R (ρ.set i (.sh d)) S D) : wps (.seq (.asg i e) rest) R ρ S D := by
  rw [wps_seq, wps_asg]
  exact xe_ok _ _ _ _ _ _ h q
theorem w_own {ds : List Dt} (h : xe e ρ = some (.lst ds)) (q : wps rest R (ρ.set i (.ow ds)) S D) : wps (.seq (.own i e) rest) R ρ S D := by
  rw [wps_seq, wps_own]
  exact xe_ok _ _ _ _ _ _ h q
theorem w_ret (h : xe e ρ = some d) (q : D.rt d S) : wps (.seq (.ret e) rest) R ρ S D := by
  rw [wps_seq, wps_ret]
  exact xe_ok _ _ _ _ _ _ h q
theorem w_if (k : Bool) (h : (xe t ρ).bind tru = some k) (q : wps (.seq (if k then a else b) rest) R ρ S D) : wps (.seq (.ite t a b) rest) R ρ S D := by
  rw [wps_seq, wps_ite]
  obtain ⟨x, h1, h2⟩ := bind_some h
  refine xe_ok _ _ _ _ _ _ h1 ?_
  rw [h2]
  cases k with
  | true => rw [if_pos rfl, wps_seq] at q; exact q
  | false => rw [if_neg Bool.false_ne_true, wps_seq] at q; exact q
theorem w_seq (q : wps a R ρ S { D with nx := fun ρ' S' => wps (.seq b rest) R ρ' S' D }) : wps (.seq (.seq a b) rest) R ρ S D := by
  rw [wps_seq, wps_seq]
  exact q
theorem w_skip (q : wps rest R ρ S D) : wps (.seq .skip rest) R ρ S D := q
theorem w_fset (hi : ρ[i]? = some (.sh (.hdl k))) (hk : S[k]? = some (.obj c fs)) (hl : fs.length < 900) (h : xe e ρ = some d) (q : wps rest R ρ (S.set k (.obj c (putD x d fs))) D) : wps (.seq (.fset c x (.var i) e) rest) R ρ S D := by
  rw [wps_seq, wps_fset]
  refine xe_ok _ _ _ _ _ _ h ?_
  rw [wp_var, hi]
  dsimp only
  rw [hk]
  exact ⟨rfl, hl, q⟩
theorem w_fsetW (hi : ρ[i]? = some (.sh (.hdl k))) (hk : S[k]? = some (.obj c fs)) (hl : fs.length < 900) (h : wp e R ρ S fun d' S' => d' = d ∧ S' = S) (q : wps rest R ρ (S.set k (.obj c (putD x d fs))) D) : wps (.seq (.fset c x (.var i) e) rest) R ρ S D := by
  rw [wps_seq, wps_fset]
  refine wp_mono _ _ _ _ _ _ _ (fun _ _ z => z) (fun d' S' ⟨e1, e2⟩ => ?_) h
  subst e1
  subst e2
  rw [wp_var, hi]
  dsimp only
  rw [hk]
  exact ⟨rfl, hl, q⟩
theorem w_retW (h : wp e R ρ S fun d' S' => d' = d ∧ S' = S) (q : D.rt d S) : wps (.seq (.ret e) rest) R ρ S D := by
  rw [wps_seq, wps_ret]
  refine wp_mono _ _ _ _ _ _ _ (fun _ _ z => z) (fun d' S' ⟨e1, e2⟩ => ?_) h
  subst e1
  subst e2
  exact q
theorem w_ifW (k : Bool) (h : wp t R ρ S fun d' S' => tru d' = some k ∧ S' = S) (q : wps (.seq (if k then a else b) rest) R ρ S D) : wps (.seq (.ite t a b) rest) R ρ S D := by
  rw [wps_seq, wps_ite]
  refine wp_mono _ _ _ _ _ _ _ (fun _ _ z => z) (fun d' S' ⟨e1, e2⟩ => ?_) h
  subst e2
  rw [e1]
  cases k with
  | true => rw [if_pos rfl, wps_seq] at q; exact q
  | false => rw [if_neg Bool.false_ne_true, wps_seq] at q; exact q
/-- a field -/
theorem wp_self {Q : DK} (hi : ρ[i]? = some (.sh (.hdl k))) (hk : S[k]? = some (.obj c fs)) (hx : fs.lookup x = some d) (q : Q d S) : wp (.fld c x (.var i)) R ρ S Q := by
  rw [wp_fld, wp_var, hi]
  dsimp only
  rw [hk]
  dsimp only
  rw [hx]
  exact ⟨rfl, q⟩
/-- a plain call -/
theorem wp_pcall {f : Str} {F : Fn} {Q : DK} {ds : List Dt} (h : wp e R ρ S fun r S1 => r = .tup ds ∧ Q d S1) (he : F.ex ds = some d) : wp (.call f F e) R ρ S Q := by
  rw [wp_call]
  refine wp_mono _ _ _ _ _ _ _ (fun _ _ z => z) (fun r S1 q => ?_) h
  obtain ⟨rfl, q⟩ := q
  exact F.ok _ _ _ _ _ he q
end
/-! ### sheets -/
structure ShT where
  hs : List Str
  st : List RowS
  fl : List Stp
  pa : List (List RowS × List Stp)
abbrev stD (st : List RowS) : Dt := .tup (st.map rsD)
abbrev flD (fl : List Stp) : Dt := .tup (fl.map Stp.d)
abbrev onD (p : List RowS × List Stp) : Dt := .tup [stD p.1, flD p.2]
abbrev paD (pa : List (List RowS × List Stp)) : Dt := .tup (pa.map onD)
abbrev ShT.f (s : ShT) : List (Str × Dt) := [("heads", .tup (strL s.hs)), ("stand", stD s.st), ("filters", flD s.fl), ("past", paD s.pa)]
section
variable {a b c e d : Dt}
abbrev shL (a b c e : Dt) : List (Str × Dt) := [("heads", a), ("stand", b), ("filters", c), ("past", e)]
@[simp] theorem look_h : List.lookup ("heads" : Str) (shL a b c e) = some a := rfl
@[simp] theorem look_s : List.lookup ("stand" : Str) (shL a b c e) = some b := rfl
@[simp] theorem look_f : List.lookup ("filters" : Str) (shL a b c e) = some c := rfl
@[simp] theorem look_p : List.lookup ("past" : Str) (shL a b c e) = some e := rfl
@[simp] theorem put_h : putD "heads" d (shL a b c e) = shL d b c e := rfl
@[simp] theorem put_s : putD "stand" d (shL a b c e) = shL a d c e := rfl
@[simp] theorem put_f : putD "filters" d (shL a b c e) = shL a b d e := rfl
@[simp] theorem put_p : putD "past" d (shL a b c e) = shL a b c d := rfl
theorem put_h0 : putD "heads" d [] = [(("heads" : Str), d)] := rfl
theorem put_s0 : putD "stand" d [("heads", a)] = [(("heads" : Str), a), ("stand", d)] := rfl
theorem put_f0 : putD "filters" d [("heads", a), ("stand", b)] = [(("heads" : Str), a), ("stand", b), ("filters", d)] := rfl
theorem put_p0 : putD "past" d [("heads", a), ("stand", b), ("filters", c)] = shL a b c d := rfl
end
/-- a sheet's numbers are in bounds, its rows wide, its filters filters -/
structure ShOk (s : ShT) : Prop where
  hc : s.hs ∈ colsA
  wd : WideT s.hs s.st
  sl : s.st.length ≤ 4096
  fk : ∀ x ∈ s.fl, x.okC s.hs ∧ isFT x = true
  ll : s.fl.length ≤ 1000
  pl : s.pa.length ≤ 1000
  ps : ∀ p ∈ s.pa, WideT s.hs p.1 ∧ p.1.length ≤ 4096 ∧ (∀ x ∈ p.2, x.okC s.hs ∧ isFT x = true) ∧ p.2.length ≤ 1000
abbrev shO (s : ShT) : Rs := .obj "Sheet" s.f
/-- a method of sheets: from a sheet and typed arguments to a datum and the sheet behind it, or an error -/
def Fn.sht {α : Type} (own : Bool) (enc : α → List Dt) (pre : ShT → α → Prop) (f : ShT → α → Except Str (Dt × ShT)) : Fn where
  own := own
  ex := fun _ => none
  run := fun ds S Q R => ∃ k sh a, ds = .hdl k :: enc a ∧ S[k]? = some (shO sh) ∧ pre sh a ∧ match f sh a with
    | .ok r => Q r.1 (S.set k (shO r.2))
    | .error x => R ⟨x, none⟩ S
  mono := fun ds S Q Q' R R' h hR q => by
    obtain ⟨k, sh, a, e1, e2, e3, q⟩ := q
    refine ⟨k, sh, a, e1, e2, e3, ?_⟩
    split at q
    · exact h _ _ q
    · exact hR _ _ q
  ok := fun ds d S Q R e => nomatch e
theorem set_same {S : Store} {k : Nat} {r : Rs} (h : S[k]? = some r) : S.set k r = S := by
  refine List.ext_getElem? fun j => ?_
  by_cases hj : k = j
  · subst hj
    rw [List.getElem?_set_self (List.getElem?_eq_some_iff.mp h).1, h]
  · exact List.getElem?_set_ne hj
theorem set_at {S : Store} {k : Nat} {r r' : Rs} (h : S[k]? = some r) : (S.set k r')[k]? = some r' := List.getElem?_set_self (List.getElem?_eq_some_iff.mp h).1
theorem le_self {S : Store} {Q : DK} {d : Dt} (q : Q d S) : ∃ A, Sle A S ∧ Q d A := ⟨S, Sle.refl S, q⟩
theorem sh_meth {S : Store} {k : Nat} {sh : ShT} {m : Str} (h : S[k]? = some (shO sh)) (hm : ("heads" : Str) ≠ m ∧ ("stand" : Str) ≠ m ∧ ("filters" : Str) ≠ m ∧ ("past" : Str) ≠ m) : obOk (.meth "Sheet" m) (.hdl k) S := by
  unfold obOk
  dsimp only
  rw [h]
  refine ⟨rfl, ?_⟩
  show List.lookup m (shL _ _ _ _) = none
  have f : ∀ {x : Str}, x ≠ m → (m == x) = false := fun q => beq_eq_false_iff_ne.mpr (Ne.symm q)
  unfold shL
  simp only [List.lookup, f hm.1, f hm.2.1, f hm.2.2.1, f hm.2.2.2]
theorem sh_ob {S : Store} {k : Nat} {sh : ShT} {o : Obk} (h : S[k]? = some (shO sh)) (hc : o.cls = "Sheet") (hn : ∀ fs, o.nat fs) : obOk o (.hdl k) S := by
  unfold obOk
  dsimp only
  rw [h]
  exact ⟨hc.symm, hn _⟩
theorem sh_is {S : Store} {k : Nat} {sh : ShT} (h : S[k]? = some (shO sh)) : isOb "Sheet" (.hdl k) S := by
  unfold isOb
  dsimp only
  rw [h]
def oneT (hs : List Str) (st : List RowS) (s : Stp) : List RowS := (stpsT hs s st none).1
/-- the plain steps of one step, with the filters that are applied -/
def plainS (fl : List Stp) (s : Stp) : List Stp := if s = .again_ then .all_ :: fl else [s]
def filtS (fl : List Stp) (s : Stp) : List Stp := if s = .all_ then [] else if isFT s = true then fl ++ [s] else fl
def behT (hs : List Str) (st : List RowS) (fl : List Stp) (s : Stp) : List RowS × List Stp := ((plainS fl s).foldl (oneT hs) st, filtS fl s)
def ShT.goT (sh : ShT) (st : List RowS) (fl : List Stp) : ShT := ⟨sh.hs, st, fl, sh.pa ++ [(sh.st, sh.fl)]⟩
def seenS (st : List RowS) : List Nat := (st.zipIdx.filter fun p => p.1.2).map (·.2)
def ShT.doT (sh : ShT) (s : Stp) : ShT := sh.goT (behT sh.hs sh.st sh.fl s).1 (behT sh.hs sh.st sh.fl s).2
end Vr

/-! What a law's head tells of classes: methods, properties, the making. -/
namespace Vr
open PySem PySem.Spec PyProof.Rows L2

/-- a property's getter: its class, its name, its def -/
structure GetD where
  c : Str
  x : Str
  name : Str
  qual : Str
  params : Arguments
  body : List Stmt
  scope : Scope
def gAd (K : PySem.W.Frag) (c x : Str) : Addr := match PySem.W.recIn K (He.ma K (He.ga K c) x) "property" with
  | some (.ref g :: _) => g
  | _ => 0
def fnWa (K : PySem.W.Frag) (a : Addr) : He.FnW := match K.lookup a with
  | some ⟨_, _, .func fd, _⟩ => some (fd.name, fd.qualname, fd.params, fd.body, fd.scope, fd.globals, fd.closure, fd.builtins)
  | _ => none
def GetD.val (d : GetD) : He.FnW := some (d.name, d.qual, d.params, .stmts d.body, d.scope, mainGlobals, [], builtinsNs)
def okA (K : PySem.W.Frag) (a : Addr) (qual : Str) : Bool := PySem.W.keepIn K (.ref a) && (match K.lookup a with
  | some ⟨_, _, .func fd, _⟩ => PySem.W.codeIn K fd.code qual && (He.dflB K fd.defaults [] && He.kwdB K fd.kwdefaults [])
  | _ => false)
theorem funA {K : PySem.W.Frag} {a : Addr} {name qual : Str} {params : Arguments} {body : List Stmt} {scope : Scope} (e : fnWa K a = some (name, qual, params, .stmts body, scope, mainGlobals, [], builtinsNs)) (c : okA K a qual = true) : ∃ fd, FunD K name qual params body scope [] [] a fd := by
  obtain ⟨kp, c2⟩ := He.ba c
  unfold fnWa at e
  cases q : K.lookup a with
  | none =>
    rw [q] at c2
    cases c2
  | some o =>
    obtain ⟨oc, od, dt, osl⟩ := o
    rw [q] at c2 e
    cases dt with
    | func fd =>
      obtain ⟨n1, n2, n3, n4, n5, n6, n7, n8, n9, n10, n11, n12, n13, n14, n15⟩ := fd
      have e2 : (some (n1, n2, n3, n4, n5, n6, n7, n15) : He.FnW) = some (name, qual, params, .stmts body, scope, mainGlobals, [], builtinsNs) := e
      simp only [Option.some.injEq, Prod.mk.injEq] at e2
      obtain ⟨h1, h2, h3, h4, h5, h6, h7, h8⟩ := e2
      subst h1 h2 h3 h4 h5 h6 h7 h8
      have c3 : (PySem.W.codeIn K n13 n2 && (He.dflB K n8 [] && He.kwdB K n9 [])) = true := c2
      obtain ⟨k1, k2⟩ := He.ba c3
      obtain ⟨k3, k4⟩ := He.ba k2
      exact ⟨_, ⟨oc, od, n8, n9, n10, n11, n12, n13, n14, osl, rfl, q, k1, He.dflB_ok k3, He.kwdB_ok k4⟩, kp⟩
    | _ => cases c2
/-- what a property must be -/
def propB (K : PySem.W.Frag) (c x qual : Str) : Bool := decide (PySem.W.findIn K (.ref (He.ga K c)) x = some (some (.ref (He.ma K (He.ga K c) x)))) && (decide (PySem.W.specialIn K (.ref (He.ma K (He.ga K c) x)) "__get__" = some (some (.builtin "property.__get__"))) &&
  (decide (PySem.W.takesIn K (.ref (He.ma K (He.ga K c) x)) = some true) && ((match PySem.W.recIn K (He.ma K (He.ga K c) x) "property" with
    | some (.ref _ :: _) => true
    | _ => false) && okA K (gAd K c x) qual)))
/-- what a class whose objects are looked at must be -/
def clsB (K : PySem.W.Frag) (c : Str) : Bool := PySem.W.noSeq K (He.ga K c) && (PySem.W.selfFirst K (He.ga K c) && (decide (PySem.W.findIn K (.ref (He.ga K c)) "__class__" = some (some (.builtin "object.__class__"))) && (decide (PySem.W.specialIn K (.builtin "object.__class__") "__get__" = some (some (.builtin "getset_descriptor.__get__"))) &&
  (decide (PySem.W.takesIn K (.builtin "object.__class__") = some true) && (decide (PySem.W.mroIn K (He.ga K c) (.type "object") = some true) && (decide (PySem.W.kitOne K (.ref (He.ga K c)) (.ref (He.ga K c)) = some true) && (PySem.W.keepIn K (.ref (He.ga K c)) &&
  ["NoneType", "bool", "int", "str", "list", "tuple"].all fun t => decide (PySem.W.kitOne K (.type t) (.ref (He.ga K c)) = some false))))))))
def fnB (K : PySem.W.Frag) (c m : Str) : Bool := PySem.W.fnIn K (He.ma K (He.ga K c) m)
abbrev AlZ : Type := He.AlD × Bool × List He.FnW
def obsZ (n : Nat) (fa : List He.Fa) (fn : List He.DefD) (gs : List GetD) (ex : PySem.W.Frag → Bool) (g : Addr → Option Obj) : AlZ := (He.obsDG n fa fn g, ex (He.frG g (He.asD g n)), gs.map fun d => fnWa (He.frG g (He.asD g n)) (gAd (He.frG g (He.asD g n)) d.c d.x))
def hookZ (n : Nat) (fa : List He.Fa) (fn : List He.DefD) (gs : List GetD) (ex : PySem.W.Frag → Bool) : PySem.W.Hook where
  α := AlZ
  obs := fun s => obsZ n fa fn gs ex s.heap.get?
  val := fun _ => (He.valD fn, true, gs.map GetD.val)
  says := fun _ h => ∃ K : PySem.W.Frag, K.In h ∧ He.SaysD fa fn K ∧ ex K = true ∧ (gs.map fun d => fnWa K (gAd K d.c d.x)) = gs.map GetD.val
  of := fun _ _ e => ⟨_, He.frG_in, congrArg Prod.fst e, congrArg (fun z => z.2.1) e, congrArg (fun z => z.2.2) e⟩
  keeps := fun _ _ _ ⟨K, hK, c⟩ k => ⟨K, PySem.W.Frag.In.keeps hK k, c⟩
theorem obsZ_eq {n : Nat} {fa : List He.Fa} {fn : List He.DefD} {gs : List GetD} {ex : PySem.W.Frag → Bool} {g : Addr → Option Obj} {s : Shared} (h : ∀ a, g a = s.heap.get? a) : obsZ n fa fn gs ex g = (hookZ n fa fn gs ex).obs s := by
  have e : g = s.heap.get? := funext h
  rw [e] <;> rfl
section
variable {P : Program} {w : World} {K : PySem.W.Frag} {mg : Str → Option Value} {base h : Heap} {fa : List He.Fa} {fn : List He.DefD}
theorem fld_at {c x : Str} (X : K.In h) (G : h.Ns mainGlobals mg) (s : He.SaysD fa fn K) (i j l : Nat) (e1 : fa[i]? = some (.glo c)) (e2 : fa[j]? = some (.cls c)) (e3 : fa[l]? = some (.noat c x)) : FldFact ⟨P, w, K, mg, base⟩ c x :=
  ⟨_, He.glo_ok X G (s.fact i e1), He.cls_ok (s.fact j e2), He.noat_ok (s.fact l e3)⟩
theorem isc_at {c : Str} (X : K.In h) (G : h.Ns mainGlobals mg) (s : He.SaysD fa fn K) (hz : clsB K c = true) (i j : Nat) (e1 : fa[i]? = some (.glo c)) (e2 : fa[j]? = some (.cls c)) : IscFact ⟨P, w, K, mg, base⟩ c := by
  unfold clsB at hz
  simp only [Bool.and_eq_true, decide_eq_true_eq, List.all_eq_true] at hz
  obtain ⟨_, _, z1, z2, z3, z4, z5, z6, z7⟩ := hz
  exact ⟨_, He.glo_ok X G (s.fact i e1), He.cls_ok (s.fact j e2), z1, z2, z3, z4, z5, z6, z7⟩
theorem mth_at {c m f qual : Str} {params : Arguments} {body : List Stmt} {scope : Scope} {N ps : List Str} {st : Sm} {k : Nat} {F : Fn} (X : K.In h) (G : h.Ns mainGlobals mg) (s : He.SaysD fa fn K) (hb : Boots mg) (hz : clsB K c = true) (hy : fnB K c m = true) (i j l n : Nat)
    (hfn : fn[n]? = some ⟨(c, some m), f, qual, params, body, scope, [], []⟩) (e1 : fa[i]? = some (.glo c)) (e2 : fa[j]? = some (.cls c)) (e3 : fa[l]? = some (.meth c m)) (hs : C8.scC N ps scope = true)
    (hbind : ∀ (kV doc pm : Value) (an : Option Addr) (cdv ct : Value) (us : List Value), us.length = ps.length → bindArgs (PySem.W.fnOf f qual params body scope .none kV doc pm an cdv ct) ⟨us, []⟩ = pure (ps.zip us))
    (hc : chkS N scope F.own st body = true) (hn : NeedS ⟨P, w, K, mg, base⟩ k st) (hF : Body F ps.length N.length st) : MthFact ⟨P, w, K, mg, base⟩ (k + 1) c m F := by
  obtain ⟨fd, FD⟩ := s.def_ n hfn
  unfold clsB at hz
  simp only [Bool.and_eq_true] at hz
  exact ⟨_, _, fd, ps, He.glo_ok X G (s.fact i e1), He.cls_ok (s.fact j e2), He.meth_ok (s.fact l e3), ok_of FD hs hc hb hn hF, FD.bindsN hbind, hy, hz.1, hz.2.1⟩
theorem mk_at {c f qual : Str} {params : Arguments} {body : List Stmt} {scope : Scope} {N ps : List Str} {st : Sm} {k : Nat} {F : Fn} (X : K.In h) (G : h.Ns mainGlobals mg) (s : He.SaysD fa fn K) (hb : Boots mg) (i l n : Nat)
    (hfn : fn[n]? = some ⟨(c, some "__init__"), f, qual, params, body, scope, [], []⟩) (e1 : fa[i]? = some (.glo c)) (e3 : fa[l]? = some (.mkr c)) (hs : C8.scC N ps scope = true)
    (hbind : ∀ (kV doc pm : Value) (an : Option Addr) (cdv ct : Value) (us : List Value), us.length = ps.length → bindArgs (PySem.W.fnOf f qual params body scope .none kV doc pm an cdv ct) ⟨us, []⟩ = pure (ps.zip us))
    (hc : chkS N scope F.own st body = true) (hn : NeedS ⟨P, w, K, mg, base⟩ k st) (hF : Body F ps.length N.length st) : MkFact ⟨P, w, K, mg, base⟩ (k + 1) c F := by
  obtain ⟨fd, FD⟩ := s.def_ n hfn
  exact ⟨_, _, fd, ps, He.glo_ok X G (s.fact i e1), He.mkr_ok (s.fact l e3), ok_of FD hs hc hb hn hF, FD.bindsN hbind⟩
theorem prop_at {gs : List GetD} {c x f qual : Str} {params : Arguments} {body : List Stmt} {scope : Scope} {N ps : List Str} {st : Sm} {k : Nat} {F : Fn} (X : K.In h) (G : h.Ns mainGlobals mg) (s : He.SaysD fa fn K) (hb : Boots mg) (hg : (gs.map fun d => fnWa K (gAd K d.c d.x)) = gs.map GetD.val) (hz : propB K c x qual = true) (i j n : Nat)
    (hgn : gs[n]? = some ⟨c, x, f, qual, params, body, scope⟩) (e1 : fa[i]? = some (.glo c)) (e2 : fa[j]? = some (.cls c)) (hs : C8.scC N ps scope = true)
    (hbind : ∀ (kV doc pm : Value) (an : Option Addr) (cdv ct : Value) (us : List Value), us.length = ps.length → bindArgs (PySem.W.fnOf f qual params body scope .none kV doc pm an cdv ct) ⟨us, []⟩ = pure (ps.zip us))
    (hc : chkS N scope F.own st body = true) (hn : NeedS ⟨P, w, K, mg, base⟩ k st) (hF : Body F ps.length N.length st) : PropFact ⟨P, w, K, mg, base⟩ (k + 1) c x F := by
  unfold propB at hz
  simp only [Bool.and_eq_true, decide_eq_true_eq] at hz
  obtain ⟨z1, z2, z3, z4, z5⟩ := hz
  have e : (gs.map fun d => fnWa K (gAd K d.c d.x))[n]? = (gs.map GetD.val)[n]? := by rw [hg]
  rw [List.getElem?_map, List.getElem?_map, hgn] at e
  obtain ⟨fd, FD⟩ := funA (Option.some.inj e) z5
  refine ⟨_, _, _, fd, ps, He.glo_ok X G (s.fact i e1), He.cls_ok (s.fact j e2), ⟨z1, z2, z3, ?_⟩, ok_of FD hs hc hb hn hF, FD.bindsN hbind⟩
  unfold gAd
  split at z4
  · rename_i g rest e
    exact ⟨rest, by rw [e]⟩
  · cases z4
end
end Vr

namespace Vr
open PySem PySem.Spec PyProof.Rows L2
abbrev N_is_word : List Str := ["value", "sign"]
abbrev P_is_word : List Str := ["value"]
def S_is_word : Sm := (.seq (.ret (.and (.isi ["str"] (.var 0)) (.and (.cmp .le (.blt .len (.var 0)) (.glo "MOST_LETTERS" (.int (8)))) (.blt .all (.lc [("sign", 1)] (.one 1) (.var 0) (.con (.bool true)) (.cmp .isin (.var 1) (.glo "LETTERS" (.str "abcdefghijklmnopqrstuvwxyz"))))))))
    .skip)
def F_is_word : Fn := Fn.ofX false 1 2 S_is_word
theorem body_is_word : Body F_is_word 1 2 S_is_word := body_ofX
def lowB (c : Nat) : Bool := decide (97 ≤ c ∧ c ≤ 122)
/-- a word, of any datum -/
def isWordD : Dt → Bool
  | .str s => decide (s.length ≤ 8) && s.cps.toList.all lowB
  | _ => false
def lettersS : Str := "abcdefghijklmnopqrstuvwxyz"
theorem in_letters (c : Nat) : cmpD .isin (.str ⟨#[c]⟩) (.str "abcdefghijklmnopqrstuvwxyz") = some (lowB c) := by
  show some (!(Builtin.Str.occurrences lettersS ⟨#[c]⟩ 0 lettersS.length 1).isEmpty) = _
  rw [StrLaws.found_one]
  have e : lettersS.cps.toList = [97, 98, 99, 100, 101, 102, 103, 104, 105, 106, 107, 108, 109, 110, 111, 112, 113, 114, 115, 116, 117, 118, 119, 120, 121, 122] := by decide +kernel
  rw [e]
  unfold lowB
  congr 1
  refine decide_eq_decide.mpr ?_
  simp only [List.mem_cons, List.not_mem_nil, or_false]
  omega
theorem boolsOf_map : ∀ bs : List Bool, boolsOf (bs.map Dt.bl) = some bs
  | [] => rfl
  | b :: bs => by
    show (boolsOf (bs.map Dt.bl)).map (b :: ·) = _
    rw [boolsOf_map bs]
    rfl
theorem all_bools {α : Type} (g : α → Bool) (xs : List α) : bltD .all (.lst (xs.map fun x => .bl (g x))) = some (.bl (xs.all g)) := by
  have e : xs.map (fun x => Dt.bl (g x)) = (xs.map g).map Dt.bl := by rw [List.map_map]; rfl
  show (boolsOf _).map _ = _
  rw [e, boolsOf_map]
  simp
theorem any_bools {α : Type} (g : α → Bool) (xs : List α) : bltD .any (.lst (xs.map fun x => .bl (g x))) = some (.bl (xs.any g)) := by
  have e : xs.map (fun x => Dt.bl (g x)) = (xs.map g).map Dt.bl := by rw [List.map_map]; rfl
  show (boolsOf _).map _ = _
  rw [e, boolsOf_map]
  simp
theorem okD_ty {n : Nat} {d : Dt} (h : okD n d = true) : ∃ t, tyD d = some t := by
  cases d with
  | hdl k => cases n <;> cases h
  | dct k => cases n <;> cases h
  | _ => exact ⟨_, rfl⟩
theorem is_word_D {n : Nat} {d : Dt} (h : okD n d = true) : F_is_word.ex [d] = some (.bl (isWordD d)) := by
  show exF 1 2 S_is_word [d] = _
  cases d with
  | str s =>
    have i1 : isiD ["str"] (.str s) = some true := rfl
    by_cases hl : s.length ≤ 8
    · have e := lc_M (own := [("sign", 1)]) (pt := .one 1) (src := .var 0) (elt := .cmp .isin (.var 1) (.glo "LETTERS" (.str "abcdefghijklmnopqrstuvwxyz"))) (ρ := [.sh (.str s), .no]) (D := .str s) (fun c => .str ⟨#[c]⟩) (fun c => .bl (lowB c)) s.cps.toList rfl rfl (fun c _ => ⟨_, rfl, by
        have := in_letters c
        simp [wipeE, this]⟩) (by
          have : s.cps.toList.length = s.length := Array.length_toList
          rw [sizeLine_eq]
          omega)
      have e2 := all_bools lowB s.cps.toList
      have hl' : ((s.length : Nat) : Int) ≤ 8 := by omega
      simp [exF, S_is_word, ev0, i1, e, e2, hl, hl', isWordD]
    · have hl' : ¬ ((s.length : Nat) : Int) ≤ 8 := by omega
      simp [exF, S_is_word, ev0, i1, hl, hl', isWordD]
  | hdl k => cases n <;> cases h
  | dct k => cases n <;> cases h
  | non => rfl
  | bl b => rfl
  | int i => rfl
  | tup ds => rfl
  | lst ds => rfl
abbrev N_is_columns : List Str := ["value", "name", "one", "other"]
abbrev P_is_columns : List Str := ["value"]
def S_is_columns : Sm := (.seq (.ite (.or (.not (.isi ["tuple"] (.var 0))) (.not (.chn .le .le (.con (.int 1)) (.blt .len (.var 0)) (.glo "MOST_COLUMNS" (.int (3))))))
    (.seq (.ret (.con (.bool false)))
    .skip)
    .skip)
    (.seq (.ite (.not (.blt .all (.lc [("name", 1)] (.one 1) (.var 0) (.con (.bool true)) (.and (.call "is_word" F_is_word (.cons (.var 1) .nil)) (.cmp .ne (.var 1) (.con (.str "")))))))
    (.seq (.ret (.con (.bool false)))
    .skip)
    .skip)
    (.seq (.ret (.blt .all (.lc [("one", 2), ("other", 3)] (.many [2, 3]) (.zip (.var 0) (.slc (.var 0) (.con (.int 1)) .nil)) (.con (.bool true)) (.cmp .lt (.var 2) (.var 3)))))
    .skip)))
def F_is_columns : Fn := Fn.ofX false 1 4 S_is_columns
theorem body_is_columns : Body F_is_columns 1 4 S_is_columns := body_ofX
abbrev N_is_column : List Str := ["columns", "value"]
abbrev P_is_column : List Str := ["columns", "value"]
def S_is_column : Sm := (.seq (.ret (.and (.isi ["str"] (.var 1)) (.cmp .isin (.var 1) (.var 0))))
    .skip)
def F_is_column : Fn := Fn.ofX false 2 2 S_is_column
theorem body_is_column : Body F_is_column 2 2 S_is_column := body_ofX
abbrev N_are_two : List Str := ["columns", "values", "value"]
abbrev P_are_two : List Str := ["columns", "values"]
def S_are_two : Sm := (.seq (.ret (.and (.blt .all (.lc [("value", 2)] (.one 2) (.var 1) (.con (.bool true)) (.call "is_column" F_is_column (.cons (.var 0) (.cons (.var 2) .nil))))) (.cmp .ne (.idx (.var 1) (.con (.int 0))) (.idx (.var 1) (.con (.int 1))))))
    .skip)
def F_are_two : Fn := Fn.ofX false 2 3 S_are_two
theorem body_are_two : Body F_are_two 2 3 S_are_two := body_ofX
abbrev N_is_test : List Str := ["columns", "value"]
abbrev P_is_test : List Str := ["columns", "value"]
def S_is_test : Sm := (.seq (.ite (.or (.not (.isi ["tuple"] (.var 1))) (.or (.not (.chn .le .le (.con (.int 2)) (.blt .len (.var 1)) (.con (.int 3)))) (.not (.isi ["str"] (.idx (.var 1) (.con (.int 0)))))))
    (.seq (.ret (.con (.bool false)))
    .skip)
    .skip)
    (.seq (.ite (.cmp .eq (.idx (.var 1) (.con (.int 0))) (.con (.str "above")))
    (.seq (.ret (.and (.cmp .eq (.blt .len (.var 1)) (.con (.int 2))) (.call "is_column" F_is_column (.cons (.var 0) (.cons (.idx (.var 1) (.con (.int 1))) .nil)))))
    .skip)
    .skip)
    (.seq (.ite (.cmp .eq (.idx (.var 1) (.con (.int 0))) (.con (.str "same")))
    (.seq (.ret (.and (.cmp .eq (.blt .len (.var 1)) (.con (.int 3))) (.call "are_two" F_are_two (.cons (.var 0) (.cons (.slc (.var 1) (.con (.int 1)) .nil) .nil)))))
    .skip)
    .skip)
    (.seq (.ret (.and (.cmp .eq (.idx (.var 1) (.con (.int 0))) (.con (.str "is"))) (.and (.cmp .eq (.blt .len (.var 1)) (.con (.int 3))) (.and (.call "is_column" F_is_column (.cons (.var 0) (.cons (.idx (.var 1) (.con (.int 1))) .nil))) (.call "is_word" F_is_word (.cons (.idx (.var 1) (.con (.int 2))) .nil))))))
    .skip))))
def F_is_test : Fn := Fn.ofX false 2 2 S_is_test
theorem body_is_test : Body F_is_test 2 2 S_is_test := body_ofX
abbrev N_is_step_of : List Str := ["columns", "value", "word"]
abbrev P_is_step_of : List Str := ["columns", "value"]
def S_is_step_of : Sm := (.seq (.ite (.or (.not (.isi ["tuple"] (.var 1))) (.or (.not (.chn .le .le (.con (.int 1)) (.blt .len (.var 1)) (.con (.int 3)))) (.not (.isi ["str"] (.idx (.var 1) (.con (.int 0)))))))
    (.seq (.ret (.con (.bool false)))
    .skip)
    .skip)
    (.seq (.asg 2 (.idx (.var 1) (.con (.int 0))))
    (.seq (.ite (.cmp .isin (.var 2) (.glo "PLAIN" (.tup [(.str "all"), (.str "again"), (.str "drop"), (.str "double")])))
    (.seq (.ret (.cmp .eq (.blt .len (.var 1)) (.con (.int 1))))
    .skip)
    .skip)
    (.seq (.ite (.cmp .isin (.var 2) (.glo "ON_COLUMN" (.tup [(.str "first"), (.str "down")])))
    (.seq (.ret (.and (.cmp .eq (.blt .len (.var 1)) (.con (.int 2))) (.call "is_column" F_is_column (.cons (.var 0) (.cons (.idx (.var 1) (.con (.int 1))) .nil)))))
    .skip)
    .skip)
    (.seq (.ite (.cmp .isin (.var 2) (.tup (.cons (.con (.str "show")) (.cons (.con (.str "hide")) .nil))))
    (.seq (.ret (.and (.cmp .eq (.blt .len (.var 1)) (.con (.int 2))) (.call "is_test" F_is_test (.cons (.var 0) (.cons (.idx (.var 1) (.con (.int 1))) .nil)))))
    .skip)
    .skip)
    (.seq (.ite (.cmp .eq (.var 2) (.con (.str "take")))
    (.seq (.ret (.and (.cmp .eq (.blt .len (.var 1)) (.con (.int 3))) (.call "are_two" F_are_two (.cons (.var 0) (.cons (.slc (.var 1) (.con (.int 1)) .nil) .nil)))))
    .skip)
    .skip)
    (.seq (.ret (.and (.cmp .eq (.var 2) (.con (.str "put"))) (.and (.cmp .eq (.blt .len (.var 1)) (.con (.int 3))) (.and (.call "is_column" F_is_column (.cons (.var 0) (.cons (.idx (.var 1) (.con (.int 1))) .nil))) (.call "is_word" F_is_word (.cons (.idx (.var 1) (.con (.int 2))) .nil))))))
    .skip)))))))
def F_is_step_of : Fn := Fn.ofX false 2 3 S_is_step_of
theorem body_is_step_of : Body F_is_step_of 2 3 S_is_step_of := body_ofX
abbrev N_unfolded : List Str := ["steps", "found", "filters", "step"]
abbrev P_unfolded : List Str := ["steps"]
def S_unfolded : Sm := (.seq (.par 1 2 false false (.lst .nil) (.lst .nil))
    (.seq (.for_ (.one 3) (.var 0)
    (.seq (.asg 1 (.bin .add (.var 1) (.ite (.cmp .eq (.idx (.var 3) (.con (.int 0))) (.con (.str "again"))) (.bin .add (.lst (.cons (.tup (.cons (.con (.str "all")) .nil)) .nil)) (.var 2)) (.lst (.cons (.var 3) .nil)))))
    (.seq (.ite (.cmp .eq (.idx (.var 3) (.con (.int 0))) (.con (.str "all")))
    (.seq (.asg 2 (.lst .nil))
    .skip)
    .skip)
    (.seq (.ite (.cmp .isin (.idx (.var 3) (.con (.int 0))) (.tup (.cons (.con (.str "show")) (.cons (.con (.str "hide")) .nil))))
    (.seq (.asg 2 (.bin .add (.var 2) (.lst (.cons (.var 3) .nil))))
    .skip)
    .skip)
    .skip))))
    (.seq (.ret (.blt .tup (.var 1)))
    .skip)))
def F_unfolded : Fn := Fn.ofX false 1 4 S_unfolded
theorem body_unfolded : Body F_unfolded 1 4 S_unfolded := body_ofX
abbrev N_has_memory : List Str := ["step"]
abbrev P_has_memory : List Str := ["step"]
def S_has_memory : Sm := (.seq (.ret (.or (.cmp .isin (.idx (.var 0) (.con (.int 0))) (.glo "ON_COLUMN" (.tup [(.str "first"), (.str "down")]))) (.and (.cmp .isin (.idx (.var 0) (.con (.int 0))) (.tup (.cons (.con (.str "show")) (.cons (.con (.str "hide")) .nil)))) (.cmp .eq (.idx (.idx (.var 0) (.con (.int 1))) (.con (.int 0))) (.con (.str "above"))))))
    .skip)
def F_has_memory : Fn := Fn.ofX false 1 1 S_has_memory
theorem body_has_memory : Body F_has_memory 1 1 S_has_memory := body_ofX
abbrev N_count_memories : List Str := ["steps", "step"]
abbrev P_count_memories : List Str := ["steps"]
def S_count_memories : Sm := (.seq (.ret (.blt .len (.lc [("step", 1)] (.one 1) (.call "unfolded" F_unfolded (.cons (.var 0) .nil)) (.call "has_memory" F_has_memory (.cons (.var 1) .nil)) (.var 1))))
    .skip)
def F_count_memories : Fn := Fn.ofX false 1 2 S_count_memories
theorem body_count_memories : Body F_count_memories 1 2 S_count_memories := body_ofX
abbrev N_is_script_of : List Str := ["columns", "value", "step"]
abbrev P_is_script_of : List Str := ["columns", "value"]
def S_is_script_of : Sm := (.seq (.ite (.or (.not (.isi ["tuple"] (.var 1))) (.cmp .gt (.blt .len (.var 1)) (.glo "MOST_STEPS" (.int (10)))))
    (.seq (.ret (.con (.bool false)))
    .skip)
    .skip)
    (.seq (.ite (.not (.blt .all (.lc [("step", 2)] (.one 2) (.var 1) (.con (.bool true)) (.call "is_step_of" F_is_step_of (.cons (.var 0) (.cons (.var 2) .nil))))))
    (.seq (.ret (.con (.bool false)))
    .skip)
    .skip)
    (.seq (.ret (.and (.cmp .le (.mth .count (.var 1) (.tup (.cons (.con (.str "double")) .nil))) (.glo "MOST_DOUBLES" (.int (2)))) (.cmp .le (.call "count_memories" F_count_memories (.cons (.var 1) .nil)) (.glo "MOST_MEMORIES" (.int (3))))))
    .skip)))
def F_is_script_of : Fn := Fn.ofX false 2 3 S_is_script_of
theorem body_is_script_of : Body F_is_script_of 2 3 S_is_script_of := body_ofX
abbrev N_need_columns : List Str := ["columns"]
abbrev P_need_columns : List Str := ["columns"]
def S_need_columns : Sm := (.seq (.ite (.not (.call "is_columns" F_is_columns (.cons (.var 0) .nil)))
    (.seq (.rse "InvalidColumns")
    .skip)
    .skip)
    .skip)
def F_need_columns : Fn := Fn.ofX false 1 1 S_need_columns
theorem body_need_columns : Body F_need_columns 1 1 S_need_columns := body_ofX
abbrev N_need_script : List Str := ["columns", "script"]
abbrev P_need_script : List Str := ["columns", "script"]
def S_need_script : Sm := (.seq (.exp (.call "need_columns" F_need_columns (.cons (.var 0) .nil)))
    (.seq (.ite (.not (.call "is_script_of" F_is_script_of (.cons (.var 0) (.cons (.var 1) .nil))))
    (.seq (.rse "InvalidScript")
    .skip)
    .skip)
    .skip))
def F_need_script : Fn := Fn.ofX false 2 2 S_need_script
theorem body_need_script : Body F_need_script 2 2 S_need_script := body_ofX
abbrev N_is_row_of : List Str := ["columns", "value", "cell"]
abbrev P_is_row_of : List Str := ["columns", "value"]
def S_is_row_of : Sm := (.seq (.ret (.and (.isi ["tuple"] (.var 1)) (.and (.cmp .eq (.blt .len (.var 1)) (.blt .len (.var 0))) (.blt .all (.lc [("cell", 2)] (.one 2) (.var 1) (.con (.bool true)) (.call "is_word" F_is_word (.cons (.var 2) .nil)))))))
    .skip)
def F_is_row_of : Fn := Fn.ofX false 2 3 S_is_row_of
theorem body_is_row_of : Body F_is_row_of 2 3 S_is_row_of := body_ofX
def isRowD (n : Nat) : Dt → Bool
  | .tup ds => decide (ds.length = n) && ds.all isWordD
  | _ => false
theorem is_row_D {hs : List Str} {n : Nat} {d : Dt} (h3 : hs.length ≤ 3) (h : okD (n + 1) d = true) : F_is_row_of.ex [.tup (strL hs), d] = some (.bl (isRowD hs.length d)) := by
  show exF 2 3 S_is_row_of [.tup (strL hs), d] = _
  cases d with
  | tup ds =>
    have i1 : isiD ["tuple"] (.tup ds) = some true := rfl
    have h' : ds.all (okD n) = true := h
    rw [List.all_eq_true] at h'
    by_cases hl : ds.length = hs.length
    · have e := lc_M (own := [("cell", 2)]) (pt := .one 2) (src := .var 1) (elt := .call "is_word" F_is_word (.cons (.var 2) .nil)) (ρ := [.sh (.tup (strL hs)), .sh (.tup ds), .no]) (D := .tup ds) id (fun d => .bl (isWordD d)) ds rfl (by rw [List.map_id]; rfl) (fun d hd => ⟨_, rfl, by
        have := is_word_D (h' d hd)
        simp [wipeE, this]⟩) (by rw [sizeLine_eq]; omega)
      have e2 := all_bools isWordD ds
      simp [exF, S_is_row_of, ev0, i1, e, e2, hl, isRowD]
    · have hl' : ¬ ((ds.length : Nat) : Int) = hs.length := by omega
      simp [exF, S_is_row_of, ev0, i1, hl, hl', isRowD]
  | hdl k => cases h
  | dct k => cases h
  | non => rfl
  | bl b => rfl
  | int i => rfl
  | str s => rfl
  | lst ds => rfl
abbrev N_is_table_of : List Str := ["columns", "value", "row"]
abbrev P_is_table_of : List Str := ["columns", "value"]
def S_is_table_of : Sm := (.seq (.ret (.and (.isi ["list"] (.var 1)) (.and (.cmp .le (.blt .len (.var 1)) (.glo "MOST_ROWS" (.int (200)))) (.blt .all (.lc [("row", 2)] (.one 2) (.var 1) (.con (.bool true)) (.call "is_row_of" F_is_row_of (.cons (.var 0) (.cons (.var 2) .nil))))))))
    .skip)
def F_is_table_of : Fn := Fn.ofX false 2 3 S_is_table_of
theorem body_is_table_of : Body F_is_table_of 2 3 S_is_table_of := body_ofX
def isTableD (n : Nat) : Dt → Bool
  | .lst ds => decide (ds.length ≤ 200) && ds.all (isRowD n)
  | _ => false
theorem is_table_D {hs : List Str} {n : Nat} {d : Dt} (h3 : hs.length ≤ 3) (h : okD (n + 2) d = true) : F_is_table_of.ex [.tup (strL hs), d] = some (.bl (isTableD hs.length d)) := by
  show exF 2 3 S_is_table_of [.tup (strL hs), d] = _
  cases d with
  | lst ds =>
    have i1 : isiD ["list"] (.lst ds) = some true := rfl
    have h' : ds.all (okD (n + 1)) = true := h
    rw [List.all_eq_true] at h'
    by_cases hl : ds.length ≤ 200
    · have e := lc_M (own := [("row", 2)]) (pt := .one 2) (src := .var 1) (elt := .call "is_row_of" F_is_row_of (.cons (.var 0) (.cons (.var 2) .nil))) (ρ := [.sh (.tup (strL hs)), .sh (.lst ds), .no]) (D := .lst ds) id (fun d => .bl (isRowD hs.length d)) ds rfl (by rw [List.map_id]; rfl) (fun d hd => ⟨_, rfl, by
        have := is_row_D (hs := hs) h3 (h' d hd)
        simp [wipeE, this]⟩) (by rw [sizeLine_eq]; omega)
      have e2 := all_bools (isRowD hs.length) ds
      have hl' : ((ds.length : Nat) : Int) ≤ 200 := by omega
      simp [exF, S_is_table_of, ev0, i1, e, e2, hl, hl', isTableD]
    · have hl' : ¬ ((ds.length : Nat) : Int) ≤ 200 := by omega
      simp [exF, S_is_table_of, ev0, i1, hl, hl', isTableD]
  | hdl k => cases h
  | dct k => cases h
  | non => rfl
  | bl b => rfl
  | int i => rfl
  | str s => rfl
  | tup ds => rfl
/-- a table of words -/
structure TabT (hs : List Str) (t : List (List Str)) : Prop where
  wide : ∀ cs ∈ t, cs.length = hs.length
  word : ∀ cs ∈ t, ∀ w ∈ cs, isWordD (.str w) = true
theorem okD_cells (n : Nat) (t : List (List Str)) : (t.map cellD).all (okD (n + 1)) = true := by
  rw [List.all_eq_true]
  intro d hd
  obtain ⟨x, _, rfl⟩ := List.mem_map.mp hd
  exact okD_strs n x
theorem isRow_T {hs cs : List Str} (h1 : cs.length = hs.length) (h2 : ∀ w ∈ cs, isWordD (.str w) = true) : isRowD hs.length (cellD cs) = true := by
  unfold isRowD cellD
  rw [Bool.and_eq_true, decide_eq_true_eq, List.length_map, List.all_eq_true]
  refine ⟨h1, fun d hd => ?_⟩
  obtain ⟨w, hw, rfl⟩ := List.mem_map.mp hd
  exact h2 w hw
theorem isTable_T {hs : List Str} {t : List (List Str)} (h : TabT hs t) (hl : t.length ≤ 200) : isTableD hs.length (.lst (t.map cellD)) = true := by
  unfold isTableD
  rw [Bool.and_eq_true, decide_eq_true_eq, List.length_map, List.all_eq_true]
  refine ⟨hl, fun d hd => ?_⟩
  obtain ⟨cs, hc, rfl⟩ := List.mem_map.mp hd
  exact isRow_T (h.wide cs hc) (h.word cs hc)
abbrev N_need_table : List Str := ["columns", "table"]
abbrev P_need_table : List Str := ["columns", "table"]
def S_need_table : Sm := (.seq (.ite (.not (.call "is_table_of" F_is_table_of (.cons (.var 0) (.cons (.var 1) .nil))))
    (.seq (.rse "InvalidTable")
    .skip)
    .skip)
    .skip)
def F_need_table : Fn := Fn.ofX false 2 2 S_need_table
theorem body_need_table : Body F_need_table 2 2 S_need_table := body_ofX
theorem need_table_T {hs : List Str} {t : List (List Str)} (h3 : hs.length ≤ 3) (h : TabT hs t) (hl : t.length ≤ 200) : F_need_table.ex [.tup (strL hs), .lst (t.map cellD)] = some .non := by
  have e := is_table_D (hs := hs) (n := 0) (d := .lst (t.map cellD)) h3 (okD_cells 0 t)
  rw [isTable_T h hl] at e
  show exF 2 2 S_need_table [.tup (strL hs), .lst (t.map cellD)] = _
  simp [exF, S_need_table, ev0, e]
abbrev N_meets : List Str := ["columns", "test", "cells", "kept", "here"]
abbrev P_meets : List Str := ["columns", "test", "cells", "kept"]
def S_meets : Sm := (.seq (.asg 4 (.idx (.var 2) (.mth .index (.var 0) (.idx (.var 1) (.con (.int 1))))))
    (.seq (.ite (.cmp .eq (.idx (.var 1) (.con (.int 0))) (.con (.str "is")))
    (.seq (.ret (.cmp .eq (.var 4) (.idx (.var 1) (.con (.int 2)))))
    .skip)
    .skip)
    (.seq (.ite (.cmp .eq (.idx (.var 1) (.con (.int 0))) (.con (.str "same")))
    (.seq (.ret (.cmp .eq (.var 4) (.idx (.var 2) (.mth .index (.var 0) (.idx (.var 1) (.con (.int 2)))))))
    .skip)
    .skip)
    (.seq (.ret (.and (.cmp .notN (.var 3) (.con .none)) (.cmp .eq (.var 3) (.var 4))))
    .skip))))
def F_meets : Fn := Fn.ofX false 4 5 S_meets
theorem body_meets : Body F_meets 4 5 S_meets := body_ofX
theorem okD_strL (n : Nat) (xs : List Str) : okD (n + 1) (.tup (strL xs)) = true := okD_strs n xs
theorem idxOf_find {c : Str} : ∀ {hs : List Str}, c ∈ hs → (strL hs).findIdx? (fun z => eqD z (.str c)) = some (hs.idxOf c)
  | [], h => nomatch h
  | x :: hs, h => by
    have e : eqD (.str x) (.str c) = decide (x = c) := by
      unfold eqD
      simp [toPy, PyData.eqv]
      exact Bool.eq_iff_iff.mpr (by simp)
    show List.findIdx? (fun z => eqD z (.str c)) (Dt.str x :: strL hs) = _
    rw [List.findIdx?_cons, e]
    by_cases q : x = c
    · subst q
      simp
    · rw [decide_eq_false q, List.idxOf_cons, beq_eq_false_iff_ne.mpr q]
      have ih := idxOf_find (hs := hs) (by
        rcases List.mem_cons.mp h with r | r
        · exact absurd r.symm q
        · exact r)
      simp only [Bool.false_eq_true, if_false, cond_false]
      rw [ih]
      rfl
theorem index_T {hs : List Str} {c : Str} (h : c ∈ hs) : mthD .index (.tup (strL hs)) (.str c) = some (.int (hs.idxOf c : Nat)) := by
  show (if plainD (.str c) && plainD (.tup (strL hs)) then _ else _) = _
  have e1 : plainD (.tup (strL hs)) = true := okD_strL 11 hs
  rw [e1, idxOf_find h]
  rfl
theorem cell_at {hs cs : List Str} {c : Str} (h : c ∈ hs) (hl : cs.length = hs.length) : atI (strL cs) ((hs.idxOf c : Nat) : Int) = some (.str (cell hs cs c)) := by
  have h1 : hs.idxOf c < cs.length := by rw [hl]; exact List.idxOf_lt_length_of_mem h
  unfold atI ixN cell
  rw [if_pos (by omega), if_pos (by rw [List.length_map]; omega)]
  simp [h1]
theorem cut_lo {α : Type} (xs : List α) (n : Nat) : cutD xs none (some (n : Int)) = xs.take n := by
  unfold cutD
  rw [HT.sIx_nat]
  have e : HT.sIx xs.length 0 none = 0 := rfl
  rw [e, List.drop_zero, Nat.sub_zero]
  by_cases h : n ≤ xs.length
  · rw [Nat.min_eq_left h]
  · rw [Nat.min_eq_right (by omega), List.take_of_length_le (Nat.le_refl _), List.take_of_length_le (by omega)]
theorem cut_hi {α : Type} (xs : List α) (n : Nat) : cutD xs (some (n : Int)) none = xs.drop n := by
  unfold cutD
  rw [HT.sIx_nat]
  have e : HT.sIx xs.length xs.length none = xs.length := rfl
  rw [e]
  by_cases h : n ≤ xs.length
  · rw [Nat.min_eq_left h, List.take_of_length_le (by rw [List.length_drop]; omega)]
  · rw [Nat.min_eq_right (by omega), List.drop_of_length_le (Nat.le_refl _), List.drop_of_length_le (by omega)]
    simp
theorem putc_eq {hs cs : List Str} {c w : Str} (h : c ∈ hs) (hl : cs.length = hs.length) : (strL cs).take (hs.idxOf c) ++ [Dt.str w] ++ (strL cs).drop (hs.idxOf c + 1) = strL (putc hs cs c w) := by
  have h1 : hs.idxOf c < cs.length := by rw [hl]; exact List.idxOf_lt_length_of_mem h
  unfold putc
  rw [List.set_eq_take_append_cons_drop, if_pos h1]
  simp
theorem isN_w (k : Option Str) : cmpD .isN (wD k) .non = some (decide (k = none)) ∧ cmpD .notN (wD k) .non = some (!decide (k = none)) := by
  cases k <;> exact ⟨rfl, rfl⟩
theorem eq_w (k : Option Str) (w : Str) : cmpD .eq (wD k) (.str w) = some (decide (k = some w)) := by
  cases k with
  | none => rfl
  | some x =>
    show cmpD .eq (.str x) (.str w) = _
    rw [cmp_eq_s]
    simp
theorem meets_T {hs : List Str} {t : Tst} {cs : List Str} {k : Option Str} (ht : t.okC hs) (hl : cs.length = hs.length) : F_meets.ex [.tup (strL hs), t.d, .tup (strL cs), wD k] = some (.bl (meetsT hs t cs k)) := by
  show exF 4 5 S_meets [.tup (strL hs), t.d, .tup (strL cs), wD k] = _
  have r : ∀ xs, recv .index (.tup xs) = true := fun _ => rfl
  cases t with
  | is c w =>
    have e1 := index_T ht
    have e2 := cell_at (cs := cs) ht hl
    simp (decide := true) [exF, S_meets, ev0, Tst.d, atI_z, atI_1, atI_2, r, e1, e2, meetsT]
  | same c o =>
    have e1 := index_T ht.1
    have e2 := cell_at (cs := cs) ht.1 hl
    have e3 := index_T ht.2.1
    have e4 := cell_at (cs := cs) ht.2.1 hl
    simp (decide := true) [exF, S_meets, ev0, Tst.d, atI_z, atI_1, atI_2, r, e1, e2, e3, e4, meetsT]
  | above c =>
    have e1 := index_T ht
    have e2 := cell_at (cs := cs) ht hl
    have e3 := isN_w k
    have e4 := eq_w k (cell hs cs c)
    by_cases h : k = none
    · subst h
      simp (decide := true) [exF, S_meets, ev0, Tst.d, atI_z, atI_1, atI_2, r, e1, e2, e3, meetsT]
    · simp (decide := true) [exF, S_meets, ev0, Tst.d, atI_z, atI_1, atI_2, r, e1, e2, e3, e4, h, meetsT]
abbrev N_changed : List Str := ["columns", "step", "cells", "kept", "at", "here"]
abbrev P_changed : List Str := ["columns", "step", "cells", "kept"]
def S_changed : Sm := (.seq (.asg 4 (.mth .index (.var 0) (.idx (.var 1) (.con (.int 1)))))
    (.seq (.asg 5 (.idx (.var 2) (.var 4)))
    (.seq (.ite (.cmp .eq (.idx (.var 1) (.con (.int 0))) (.con (.str "put")))
    (.seq (.asg 5 (.idx (.var 1) (.con (.int 2))))
    .skip)
    .skip)
    (.seq (.ite (.cmp .eq (.idx (.var 1) (.con (.int 0))) (.con (.str "take")))
    (.seq (.asg 5 (.idx (.var 2) (.mth .index (.var 0) (.idx (.var 1) (.con (.int 2))))))
    .skip)
    .skip)
    (.seq (.ite (.and (.cmp .eq (.idx (.var 1) (.con (.int 0))) (.con (.str "first"))) (.cmp .notN (.var 3) (.con .none)))
    (.seq (.asg 5 (.var 3))
    .skip)
    .skip)
    (.seq (.ite (.and (.cmp .eq (.idx (.var 1) (.con (.int 0))) (.con (.str "down"))) (.and (.cmp .eq (.var 5) (.con (.str ""))) (.cmp .notN (.var 3) (.con .none))))
    (.seq (.asg 5 (.var 3))
    .skip)
    .skip)
    (.seq (.ret (.bin .add (.bin .add (.slc (.var 2) .nil (.var 4)) (.tup (.cons (.var 5) .nil))) (.slc (.var 2) (.bin .add (.var 4) (.con (.int 1))) .nil)))
    .skip)))))))
def F_changed : Fn := Fn.ofX false 4 6 S_changed
theorem body_changed : Body F_changed 4 6 S_changed := body_ofX
def isEd : Stp → Bool
  | .put _ _ => true
  | .take _ _ => true
  | .first _ => true
  | .down _ => true
  | _ => false
theorem cat_T {hs cs : List Str} {c w : Str} (hc : c ∈ hs) (hl : cs.length = hs.length) (h3 : hs.length ≤ 3) : slcD (.tup (strL cs)) none (some ((hs.idxOf c : Nat) : Int)) = some (.tup ((strL cs).take (hs.idxOf c))) ∧ slcD (.tup (strL cs)) (some (((hs.idxOf c : Nat) : Int) + 1)) none = some (.tup ((strL cs).drop (hs.idxOf c + 1))) ∧
    binD .add (.tup ((strL cs).take (hs.idxOf c))) (.tup [.str w]) = some (.tup ((strL cs).take (hs.idxOf c) ++ [.str w])) ∧ binD .add (.tup ((strL cs).take (hs.idxOf c) ++ [.str w])) (.tup ((strL cs).drop (hs.idxOf c + 1))) = some (.tup (strL (putc hs cs c w))) := by
  refine ⟨?_, ?_, ?_, ?_⟩
  · show some (Dt.tup (cutD _ _ _)) = _
    rw [cut_lo]
  · show some (Dt.tup (cutD _ _ _)) = _
    rw [show ((hs.idxOf c : Nat) : Int) + 1 = ((hs.idxOf c + 1 : Nat) : Int) from rfl, cut_hi]
  · rw [bin_add_t, if_pos]
    rw [List.length_take, List.length_map, sizeLine_eq, List.length_singleton]
    omega
  · rw [bin_add_t, if_pos, putc_eq hc hl]
    rw [List.length_append, List.length_take, List.length_drop, List.length_map, sizeLine_eq, List.length_singleton]
    omega
theorem changed_T {hs : List Str} {s : Stp} {cs : List Str} {k : Option Str} (he : isEd s = true) (ht : s.okC hs) (hl : cs.length = hs.length) (h3 : hs.length ≤ 3) : F_changed.ex [.tup (strL hs), s.d, .tup (strL cs), wD k] = some (.tup (strL (putc hs cs s.ecol (hereT hs s cs k)))) := by
  show exF 4 6 S_changed [.tup (strL hs), s.d, .tup (strL cs), wD k] = _
  have r : ∀ xs, recv .index (.tup xs) = true := fun _ => rfl
  have e3 := isN_w k
  cases s with
  | put c w =>
    have e1 := index_T ht
    have e2 := cell_at (cs := cs) ht hl
    obtain ⟨a1, a2, a3, a4⟩ := cat_T (w := w) ht hl h3
    simp (decide := true) [-bin_add_t, exF, S_changed, ev0, Stp.d, Stp.ecol, atI_z, atI_1, atI_2, r, e1, e2, e3, a1, a2, a3, a4, hereT, Ex.no, endD, sizeLine_eq]
  | take c o =>
    have e1 := index_T ht.1
    have e2 := cell_at (cs := cs) ht.1 hl
    have e4 := index_T ht.2.1
    have e5 := cell_at (cs := cs) ht.2.1 hl
    obtain ⟨a1, a2, a3, a4⟩ := cat_T (w := cell hs cs o) ht.1 hl h3
    simp (decide := true) [-bin_add_t, exF, S_changed, ev0, Stp.d, Stp.ecol, atI_z, atI_1, atI_2, r, e1, e2, e3, e4, e5, a1, a2, a3, a4, hereT, Ex.no, endD, sizeLine_eq]
  | first c =>
    have e1 := index_T ht
    have e2 := cell_at (cs := cs) ht hl
    cases k with
    | none =>
      obtain ⟨a1, a2, a3, a4⟩ := cat_T (w := cell hs cs c) ht hl h3
      simp (decide := true) [-bin_add_t, exF, S_changed, ev0, Stp.d, Stp.ecol, atI_z, atI_1, atI_2, r, e1, e2, e3, a1, a2, a3, a4, hereT, Ex.no, endD, sizeLine_eq]
    | some x =>
      obtain ⟨a1, a2, a3, a4⟩ := cat_T (w := x) ht hl h3
      simp (decide := true) [-bin_add_t, exF, S_changed, ev0, Stp.d, Stp.ecol, atI_z, atI_1, atI_2, r, e1, e2, e3, a1, a2, a3, a4, hereT, Ex.no, endD, sizeLine_eq, wD]
  | down c =>
    have e1 := index_T ht
    have e2 := cell_at (cs := cs) ht hl
    by_cases hb : cell hs cs c = ""
    · cases k with
      | none =>
        obtain ⟨a1, a2, a3, a4⟩ := cat_T (w := cell hs cs c) ht hl h3
        rw [hb] at a3 a4 e2
        simp (decide := true) [-bin_add_t, exF, S_changed, ev0, Stp.d, Stp.ecol, atI_z, atI_1, atI_2, r, e1, e2, e3, a1, a2, a3, a4, hereT, hb, Ex.no, endD, sizeLine_eq]
      | some x =>
        obtain ⟨a1, a2, a3, a4⟩ := cat_T (w := x) ht hl h3
        rw [hb] at e2
        simp (decide := true) [-bin_add_t, exF, S_changed, ev0, Stp.d, Stp.ecol, atI_z, atI_1, atI_2, r, e1, e2, e3, a1, a2, a3, a4, hereT, hb, Ex.no, endD, sizeLine_eq, wD]
    · obtain ⟨a1, a2, a3, a4⟩ := cat_T (w := cell hs cs c) ht hl h3
      simp (decide := true) [-bin_add_t, exF, S_changed, ev0, Stp.d, Stp.ecol, atI_z, atI_1, atI_2, r, e1, e2, e3, a1, a2, a3, a4, hereT, hb, Ex.no, endD, sizeLine_eq]
  | _ => cases he
abbrev N_step_on : List Str := ["columns", "step", "rows", "kept", "found", "cells", "seen", "good", "more"]
abbrev P_step_on : List Str := ["columns", "step", "rows", "kept"]
def S_step_on : Sm := (.seq (.asg 4 (.lst .nil))
    (.seq (.for_ (.many [5, 6]) (.var 2)
    (.seq (.ite (.cmp .eq (.idx (.var 1) (.con (.int 0))) (.con (.str "all")))
    (.seq (.asg 4 (.bin .add (.var 4) (.lst (.cons (.tup (.cons (.var 5) (.cons (.con (.bool true)) .nil))) .nil))))
    .skip)
    (.seq (.ite (.not (.var 6))
    (.seq (.asg 4 (.bin .add (.var 4) (.lst (.cons (.tup (.cons (.var 5) (.cons (.con (.bool false)) .nil))) .nil))))
    .skip)
    (.seq (.ite (.cmp .isin (.idx (.var 1) (.con (.int 0))) (.tup (.cons (.con (.str "show")) (.cons (.con (.str "hide")) .nil))))
    (.seq (.asg 7 (.call "meets" F_meets (.cons (.var 0) (.cons (.idx (.var 1) (.con (.int 1))) (.cons (.var 5) (.cons (.var 3) .nil))))))
    (.seq (.asg 4 (.bin .add (.var 4) (.lst (.cons (.tup (.cons (.var 5) (.cons (.cmp .eq (.var 7) (.cmp .eq (.idx (.var 1) (.con (.int 0))) (.con (.str "show")))) .nil))) .nil))))
    (.seq (.asg 3 (.idx (.var 5) (.mth .index (.var 0) (.idx (.idx (.var 1) (.con (.int 1))) (.con (.int 1))))))
    .skip)))
    (.seq (.ite (.cmp .eq (.idx (.var 1) (.con (.int 0))) (.con (.str "double")))
    (.seq (.asg 4 (.bin .add (.var 4) (.lst (.cons (.tup (.cons (.var 5) (.cons (.con (.bool true)) .nil))) (.cons (.tup (.cons (.var 5) (.cons (.con (.bool true)) .nil))) .nil)))))
    .skip)
    (.seq (.ite (.cmp .ne (.idx (.var 1) (.con (.int 0))) (.con (.str "drop")))
    (.seq (.asg 8 (.call "changed" F_changed (.cons (.var 0) (.cons (.var 1) (.cons (.var 5) (.cons (.var 3) .nil))))))
    (.seq (.asg 4 (.bin .add (.var 4) (.lst (.cons (.tup (.cons (.var 8) (.cons (.con (.bool true)) .nil))) .nil))))
    (.seq (.ite (.or (.cmp .ne (.idx (.var 1) (.con (.int 0))) (.con (.str "first"))) (.cmp .isN (.var 3) (.con .none)))
    (.seq (.asg 3 (.idx (.var 8) (.mth .index (.var 0) (.idx (.var 1) (.con (.int 1))))))
    .skip)
    .skip)
    .skip)))
    .skip)
    .skip))
    .skip))
    .skip))
    .skip))
    .skip))
    (.seq (.ret (.tup (.cons (.var 4) (.cons (.var 3) .nil))))
    .skip)))
def F_step_on : Fn := Fn.ofX false 4 9 S_step_on
theorem body_step_on : Body F_step_on 4 9 S_step_on := body_ofX
theorem scan_fold {κ α β : Type} {f : κ → α → List β × κ} : ∀ (xs : List α) (acc : List β) (k : κ), xs.foldl (fun (a : List β × κ) x => (a.1 ++ (f a.2 x).1, (f a.2 x).2)) (acc, k) = (acc ++ (scanT f xs k).1, (scanT f xs k).2)
  | [], acc, k => by simp [scanT]
  | x :: xs, acc, k => by
    rw [List.foldl_cons, scan_fold xs]
    simp [scanT]
theorem cell_put {hs cs : List Str} {c w : Str} (h : c ∈ hs) (hl : cs.length = hs.length) : cell hs (putc hs cs c w) c = w := by
  have h1 : hs.idxOf c < cs.length := by rw [hl]; exact List.idxOf_lt_length_of_mem h
  unfold cell putc
  simp [List.getD, h1]
theorem put_len {hs cs : List Str} {c w : Str} (hl : cs.length = hs.length) : (putc hs cs c w).length = hs.length := by
  unfold putc
  rw [List.length_set, hl]
theorem cmp_eq_b {a b : Bool} : cmpD .eq (.bl a) (.bl b) = some (decide (a = b)) := by
  cases a <;> cases b <;> rfl
abbrev soBody : Sm := (.seq (.ite (.cmp .eq (.idx (.var 1) (.con (.int 0))) (.con (.str "all")))
    (.seq (.asg 4 (.bin .add (.var 4) (.lst (.cons (.tup (.cons (.var 5) (.cons (.con (.bool true)) .nil))) .nil))))
    .skip)
    (.seq (.ite (.not (.var 6))
    (.seq (.asg 4 (.bin .add (.var 4) (.lst (.cons (.tup (.cons (.var 5) (.cons (.con (.bool false)) .nil))) .nil))))
    .skip)
    (.seq (.ite (.cmp .isin (.idx (.var 1) (.con (.int 0))) (.tup (.cons (.con (.str "show")) (.cons (.con (.str "hide")) .nil))))
    (.seq (.asg 7 (.call "meets" F_meets (.cons (.var 0) (.cons (.idx (.var 1) (.con (.int 1))) (.cons (.var 5) (.cons (.var 3) .nil))))))
    (.seq (.asg 4 (.bin .add (.var 4) (.lst (.cons (.tup (.cons (.var 5) (.cons (.cmp .eq (.var 7) (.cmp .eq (.idx (.var 1) (.con (.int 0))) (.con (.str "show")))) .nil))) .nil))))
    (.seq (.asg 3 (.idx (.var 5) (.mth .index (.var 0) (.idx (.idx (.var 1) (.con (.int 1))) (.con (.int 1))))))
    .skip)))
    (.seq (.ite (.cmp .eq (.idx (.var 1) (.con (.int 0))) (.con (.str "double")))
    (.seq (.asg 4 (.bin .add (.var 4) (.lst (.cons (.tup (.cons (.var 5) (.cons (.con (.bool true)) .nil))) (.cons (.tup (.cons (.var 5) (.cons (.con (.bool true)) .nil))) .nil)))))
    .skip)
    (.seq (.ite (.cmp .ne (.idx (.var 1) (.con (.int 0))) (.con (.str "drop")))
    (.seq (.asg 8 (.call "changed" F_changed (.cons (.var 0) (.cons (.var 1) (.cons (.var 5) (.cons (.var 3) .nil))))))
    (.seq (.asg 4 (.bin .add (.var 4) (.lst (.cons (.tup (.cons (.var 8) (.cons (.con (.bool true)) .nil))) .nil))))
    (.seq (.ite (.or (.cmp .ne (.idx (.var 1) (.con (.int 0))) (.con (.str "first"))) (.cmp .isN (.var 3) (.con .none)))
    (.seq (.asg 3 (.idx (.var 8) (.mth .index (.var 0) (.idx (.var 1) (.con (.int 1))))))
    .skip)
    .skip)
    .skip)))
    .skip)
    .skip))
    .skip))
    .skip))
    .skip))
    .skip)
theorem col_in {hs : List Str} {t : Tst} (h : t.okC hs) : t.col ∈ hs := by
  cases t with
  | is c w => exact h
  | same c o => exact h.1
  | above c => exact h
theorem col_at (t : Tst) : idxD t.d (.int 1) = some (.str t.col) := by
  cases t <;> simp [Tst.d, Tst.col, atI_1]
theorem so_turn {hs : List Str} {s : Stp} {a : List RowS} {k : Option Str} {r : RowS} (ht : s.okC hs) (ha : s ≠ .again_) (h3 : hs.length ≤ 3) (hr : r.1.length = hs.length) (hl : a.length + 2 ≤ 16777216) (x2 x7 x8 : Sl) :
    ∃ y7 y8, xs soBody [.sh (.tup (strL hs)), .sh s.d, x2, .sh (wD k), .sh (.lst (a.map rsD)), .sh (.tup (strL r.1)), .sh (.bl r.2), x7, x8] =
      some (.nx [.sh (.tup (strL hs)), .sh s.d, x2, .sh (wD (rowT hs s k r).2), .sh (.lst ((a ++ (rowT hs s k r).1).map rsD)), .sh (.tup (strL r.1)), .sh (.bl r.2), y7, y8]) := by
  obtain ⟨cs, b⟩ := r
  have e1 : a.length + 1 ≤ 16777216 := by omega
  have rc : ∀ xs, recv .index (.tup xs) = true := fun _ => rfl
  have hr : cs.length = hs.length := hr
  cases b with
  | false => cases s <;> (refine ⟨x7, x8, ?_⟩; simp (decide := true) [Stp.d, atI_z, atI_1, sizeLine_eq, e1, hl, rowT, rsD, cellD])
  | true =>
    have en := isN_w k
    cases s with
    | show_ t =>
      have m : F_meets.ex [.tup (strL hs), t.d, .tup (strL cs), wD k] = some (.bl (meetsT hs t cs k)) := meets_T (k := k) ht hr
      have ic : t.col ∈ hs := col_in ht
      have i0 := col_at t
      have i1 := index_T ic
      have i2 := cell_at (cs := cs) ic hr
      refine ⟨.sh (.bl (meetsT hs t cs k)), x8, ?_⟩
      simp (decide := true) [Stp.d, atI_z, atI_1, sizeLine_eq, e1, hl, rowT, rsD, cellD, m, cmp_eq_b, i0, i1, i2, rc, wD_some]
    | hide_ t =>
      have m : F_meets.ex [.tup (strL hs), t.d, .tup (strL cs), wD k] = some (.bl (meetsT hs t cs k)) := meets_T (k := k) ht hr
      have ic : t.col ∈ hs := col_in ht
      have i0 := col_at t
      have i1 := index_T ic
      have i2 := cell_at (cs := cs) ic hr
      refine ⟨.sh (.bl (meetsT hs t cs k)), x8, ?_⟩
      simp (decide := true) [Stp.d, atI_z, atI_1, sizeLine_eq, e1, hl, rowT, rsD, cellD, m, cmp_eq_b, i0, i1, i2, rc, wD_some]
    | all_ => exact ⟨x7, x8, by simp (decide := true) [Stp.d, atI_z, atI_1, sizeLine_eq, e1, hl, rowT, rsD, cellD]⟩
    | double_ => exact ⟨x7, x8, by simp (decide := true) [Stp.d, atI_z, atI_1, sizeLine_eq, e1, hl, rowT, rsD, cellD]⟩
    | drop_ => exact ⟨x7, x8, by simp (decide := true) [Stp.d, atI_z, atI_1, sizeLine_eq, e1, hl, rowT, rsD, cellD]⟩
    | again_ => exact absurd rfl ha
    | put c w =>
      have ch : F_changed.ex [.tup (strL hs), (Stp.put c w).d, .tup (strL cs), wD k] = _ := changed_T (s := .put c w) (k := k) rfl ht hr h3
      have i1 := index_T ht
      have i2 := cell_at (cs := putc hs cs c (hereT hs (.put c w) cs k)) ht (put_len hr)
      rw [cell_put ht hr] at i2
      simp only [Stp.d] at ch
      refine ⟨x7, .sh (.tup (strL (putc hs cs c (hereT hs (.put c w) cs k)))), ?_⟩
      simp only [Stp.ecol] at ch
      simp (decide := true) [Stp.d, atI_z, atI_1, sizeLine_eq, e1, hl, rowT, rsD, cellD, ch, i1, i2, rc, wD_some]
      exact ⟨rfl, rfl⟩
    | take c o =>
      have ch : F_changed.ex [.tup (strL hs), (Stp.take c o).d, .tup (strL cs), wD k] = _ := changed_T (s := .take c o) (k := k) rfl ht hr h3
      have i1 := index_T ht.1
      have i2 := cell_at (cs := putc hs cs c (hereT hs (.take c o) cs k)) ht.1 (put_len hr)
      rw [cell_put ht.1 hr] at i2
      simp only [Stp.d] at ch
      refine ⟨x7, .sh (.tup (strL (putc hs cs c (hereT hs (.take c o) cs k)))), ?_⟩
      simp only [Stp.ecol] at ch
      simp (decide := true) [Stp.d, atI_z, atI_1, sizeLine_eq, e1, hl, rowT, rsD, cellD, ch, i1, i2, rc, wD_some]
      exact ⟨rfl, rfl⟩
    | first c =>
      have ch : F_changed.ex [.tup (strL hs), (Stp.first c).d, .tup (strL cs), wD k] = _ := changed_T (s := .first c) (k := k) rfl ht hr h3
      have i1 := index_T ht
      have i2 := cell_at (cs := putc hs cs c (hereT hs (.first c) cs k)) ht (put_len hr)
      rw [cell_put ht hr] at i2
      simp only [Stp.d] at ch
      refine ⟨x7, .sh (.tup (strL (putc hs cs c (hereT hs (.first c) cs k)))), ?_⟩
      simp only [Stp.ecol] at ch
      cases k with
      | none =>
        rw [wD_none] at ch
        simp (decide := true) [Stp.d, atI_z, atI_1, sizeLine_eq, e1, hl, rowT, rsD, cellD, ch, i1, i2, rc, wD_some, wD_none]
      | some x =>
        have eh : hereT hs (.first c) cs (some x) = x := rfl
        rw [wD_some] at ch
        rw [eh] at ch i2
        simp (decide := true) [Stp.d, atI_z, atI_1, sizeLine_eq, e1, hl, rowT, rsD, cellD, ch, i1, i2, rc, wD_some, wD_none, eh]
    | down c =>
      have ch : F_changed.ex [.tup (strL hs), (Stp.down c).d, .tup (strL cs), wD k] = _ := changed_T (s := .down c) (k := k) rfl ht hr h3
      have i1 := index_T ht
      have i2 := cell_at (cs := putc hs cs c (hereT hs (.down c) cs k)) ht (put_len hr)
      rw [cell_put ht hr] at i2
      simp only [Stp.d] at ch
      refine ⟨x7, .sh (.tup (strL (putc hs cs c (hereT hs (.down c) cs k)))), ?_⟩
      simp only [Stp.ecol] at ch
      simp (decide := true) [Stp.d, atI_z, atI_1, sizeLine_eq, e1, hl, rowT, rsD, cellD, ch, i1, i2, rc, wD_some]
theorem step_on_TD {hs : List Str} {s : Stp} {rows : List RowS} {k : Option Str} {D : Dt} (hD : items D = some (rows.map rsD)) (ht : s.okC hs) (ha : s ≠ .again_) (h3 : hs.length ≤ 3) (hw : WideT hs rows) (hl : rows.length ≤ 1000000) :
    F_step_on.ex [.tup (strL hs), s.d, D, wD k] = some (.tup [.lst ((stpsT hs s rows k).1.map rsD), wD (stpsT hs s rows k).2]) := by
  show exF 4 9 S_step_on [.tup (strL hs), s.d, D, wD k] = _
  refine exF_rt rfl ?_
  unfold S_step_on
  refine x_asg (.lst []) (by simp [ev0, sizeLine_eq]) ?_
  refine x_for rsD (fun (a : List RowS × Option Str) ss ρ => a.1.length + 2 * ss.length ≤ 4000000 ∧ ∃ x5 x6 x7 x8, ρ = [.sh (.tup (strL hs)), .sh s.d, .sh D, .sh (wD a.2), .sh (.lst (a.1.map rsD)), x5, x6, x7, x8]) (fun a r => (a.1 ++ (rowT hs s a.2 r).1, (rowT hs s a.2 r).2)) (fun r => r.1.length = hs.length) rows ([], k) (D := D) rfl hD hw ⟨by simp; omega, .no, .no, .no, .no, rfl⟩ ?_ ?_
  · rintro ⟨a, k⟩ r rs _ hr ⟨hn, x5, x6, x7, x8, rfl⟩
    rw [List.length_cons] at hn
    dsimp only at hn
    obtain ⟨y7, y8, e⟩ := so_turn (k := k) ht ha h3 hr (a := a) (by omega) (.sh D) x7 x8
    refine ⟨_, _, rfl, e, ?_, _, _, _, _, rfl⟩
    have h1 := rowT_len hs s k r
    rw [List.length_append]
    dsimp only
    split at h1 <;> omega
  · rintro ρ' ⟨hn, x5, x6, x7, x8, rfl⟩
    rw [scan_fold, List.nil_append]
    refine x_ret ?_
    simp [sizeLine_eq]
    exact ⟨rfl, rfl⟩

theorem step_on_T {hs : List Str} {s : Stp} {rows : List RowS} {k : Option Str} (ht : s.okC hs) (ha : s ≠ .again_) (h3 : hs.length ≤ 3) (hw : WideT hs rows) (hl : rows.length ≤ 1000000) :
    F_step_on.ex [.tup (strL hs), s.d, .lst (rows.map rsD), wD k] = some (.tup [.lst ((stpsT hs s rows k).1.map rsD), wD (stpsT hs s rows k).2]) := step_on_TD rfl ht ha h3 hw hl
abbrev N_row_on : List Str := ["columns", "steps", "memory", "cells", "rows", "found", "at", "step", "kept"]
abbrev P_row_on : List Str := ["columns", "steps", "memory", "cells"]
def S_row_on : Sm := (.seq (.par3 4 5 6 false false false (.lst (.cons (.tup (.cons (.var 3) (.cons (.con (.bool true)) .nil))) .nil)) (.lst .nil) (.con (.int 0)))
    (.seq (.for_ (.one 7) (.var 1)
    (.seq (.ite (.call "has_memory" F_has_memory (.cons (.var 7) .nil))
    (.seq (.unp [4, 8] (.call "step_on" F_step_on (.cons (.var 0) (.cons (.var 7) (.cons (.var 4) (.cons (.idx (.var 2) (.var 6)) .nil))))))
    (.seq (.asg 5 (.bin .add (.var 5) (.lst (.cons (.var 8) .nil))))
    (.seq (.asg 6 (.bin .add (.var 6) (.con (.int 1))))
    .skip)))
    (.seq (.asg 4 (.idx (.call "step_on" F_step_on (.cons (.var 0) (.cons (.var 7) (.cons (.var 4) (.cons (.con .none) .nil))))) (.con (.int 0))))
    .skip))
    .skip))
    (.seq (.ret (.tup (.cons (.var 4) (.cons (.blt .tup (.var 5)) .nil))))
    .skip)))
def F_row_on : Fn := Fn.ofX false 4 9 S_row_on
theorem body_row_on : Body F_row_on 4 9 S_row_on := body_ofX
theorem has_mem_T (s : Stp) : F_has_memory.ex [s.d] = some (.bl (remT s)) := by
  show exF 1 1 S_has_memory [s.d] = _
  have r : ∀ w x : Str, cmpD .isin (.str w) (.tup [.str x]) = some (decide (x = w)) := fun w x => by
    show some (inD (.str w) [.str x]) = _
    unfold inD eqD
    simp [toPy, PyData.eqv]
    exact Bool.eq_iff_iff.mpr (by simp)
  cases s with
  | show_ t => cases t <;> simp (decide := true) [exF, S_has_memory, ev0, Stp.d, Tst.d, atI_z, atI_1, remT, Tst.isAb, sizeLine_eq]
  | hide_ t => cases t <;> simp (decide := true) [exF, S_has_memory, ev0, Stp.d, Tst.d, atI_z, atI_1, remT, Tst.isAb, sizeLine_eq]
  | _ => simp (decide := true) [exF, S_has_memory, ev0, Stp.d, atI_z, atI_1, remT, sizeLine_eq]
/-- what rows become by steps, a memory's rest in hand -/
theorem stpsT_len {hs : List Str} {s : Stp} {rows : List RowS} {k : Option Str} : (stpsT hs s rows k).1.length ≤ (if s = .double_ then 2 else 1) * rows.length :=
  scan_len _ (fun k a => rowT_len hs s k a) rows k
/-- plain steps of these columns -/
def PlT (hs : List Str) (ss : List Stp) : Prop := ∀ s ∈ ss, s.okC hs ∧ s ≠ .again_
def rowF (hs : List Str) (mem : List (Option Str)) (a : List RowS × List (Option Str)) (s : Stp) : List RowS × List (Option Str) :=
  if remT s = true then ((stpsT hs s a.1 ((mem.drop a.2.length).headD none)).1, a.2 ++ [(stpsT hs s a.1 ((mem.drop a.2.length).headD none)).2]) else ((stpsT hs s a.1 none).1, a.2)
theorem rowF_fold {hs : List Str} {mem : List (Option Str)} : ∀ (ss : List Stp) (a : List RowS × List (Option Str)), ss.foldl (rowF hs mem) a = ((rowsT hs ss (mem.drop a.2.length) a.1).1, a.2 ++ (rowsT hs ss (mem.drop a.2.length) a.1).2)
  | [], a => by simp [rowsT]
  | s :: ss, a => by
    rw [List.foldl_cons, rowF_fold ss]
    unfold rowF
    by_cases h : remT s = true
    · rw [if_pos h]
      have e : (mem.drop a.2.length).tail = mem.drop (a.2.length + 1) := by rw [List.tail_drop]
      simp only [rowsT, h, if_true, List.length_append, List.length_singleton, e, List.append_assoc, List.singleton_append]
    · rw [if_neg h]
      simp only [rowsT, h, if_false]
      rfl
theorem mem_at {mem : List (Option Str)} {n : Nat} (h : n < mem.length) : atI (mem.map wD) ((n : Nat) : Int) = some (wD ((mem.drop n).headD none)) := by
  unfold atI ixN
  rw [if_pos (by omega), if_pos (by rw [List.length_map]; omega)]
  simp [h, List.headD_eq_head?_getD]
theorem row_on_T {hs : List Str} {ss : List Stp} {mem : List (Option Str)} {cs : List Str} (hp : PlT hs ss) (h3 : hs.length ≤ 3) (hm : mem.length = (ss.filter remT).length) (hd : ss.count .double_ ≤ 10) (hl : ss.length ≤ 10000) (hc : cs.length = hs.length) :
    F_row_on.ex [.tup (strL hs), .tup (ss.map Stp.d), .tup (mem.map wD), .tup (strL cs)] = some (.tup [.lst ((rowOnT hs ss mem cs).1.map rsD), .tup ((rowOnT hs ss mem cs).2.map wD)]) := by
  show exF 4 9 S_row_on [.tup (strL hs), .tup (ss.map Stp.d), .tup (mem.map wD), .tup (strL cs)] = _
  refine exF_rt rfl ?_
  unfold S_row_on
  have first : xs (.par3 4 5 6 false false false (.lst (.cons (.tup (.cons (.var 3) (.cons (.con (.bool true)) .nil))) .nil)) (.lst .nil) (.con (.int 0))) (ev0 9 [.tup (strL hs), .tup (ss.map Stp.d), .tup (mem.map wD), .tup (strL cs)]) =
      some (.nx [.sh (.tup (strL hs)), .sh (.tup (ss.map Stp.d)), .sh (.tup (mem.map wD)), .sh (.tup (strL cs)), .sh (.lst [rsD (cs, true)]), .sh (.lst []), .sh (.int 0), .no, .no]) := by
    show (xe _ _).bind _ = _
    simp [ev0, sizeLine_eq, rsD, cellD]
  rw [xs_seq, first]
  dsimp only
  refine x_for Stp.d (fun (a : List RowS × List (Option Str)) rest ρ => WideT hs a.1 ∧ a.1.length * 2 ^ (rest.count .double_) ≤ 1024 ∧ a.2.length + (rest.filter remT).length ≤ mem.length ∧ a.2.length + rest.length ≤ 10000 ∧ ∃ x7 x8, ρ = [.sh (.tup (strL hs)), .sh (.tup (ss.map Stp.d)), .sh (.tup (mem.map wD)), .sh (.tup (strL cs)), .sh (.lst (a.1.map rsD)), .sh (.lst (a.2.map wD)), .sh (.int (a.2.length : Nat)), x7, x8])
    (rowF hs mem) (fun s => s.okC hs ∧ s ≠ .again_) ss ([(cs, true)], []) (D := .tup (ss.map Stp.d)) rfl rfl hp ⟨?_, ?_, ?_, ?_, .no, .no, rfl⟩ ?_ ?_
  · intro r hr
    rw [List.mem_singleton] at hr
    rw [hr]
    exact hc
  · have : 2 ^ ss.count .double_ ≤ 2 ^ 10 := Nat.pow_le_pow_right (by decide) hd
    simpa using this
  · simp [hm]
  · simpa using hl
  · rintro ⟨rows, found⟩ s rest _ ⟨ok, na⟩ ⟨hw, h1, h2, hn, x7, x8, rfl⟩
    dsimp only at hw h1 h2 hn ⊢
    have hlen : rows.length ≤ 1024 := by
      refine Nat.le_trans ?_ h1
      exact Nat.le_mul_of_pos_right _ (Nat.pow_pos (by decide))
    have hm1 := has_mem_T s
    have hlr : ∀ k, (stpsT hs s rows k).1.length * 2 ^ rest.count .double_ ≤ 1024 := fun k => by
      have q := stpsT_len (hs := hs) (s := s) (rows := rows) (k := k)
      by_cases hs2 : s = .double_
      · rw [if_pos hs2] at q
        rw [List.count_cons, hs2] at h1
        simp only [beq_self_eq_true, if_true, Nat.pow_succ] at h1
        have := Nat.mul_le_mul_right (2 ^ rest.count .double_) q
        refine Nat.le_trans this ?_
        refine Nat.le_trans (Nat.le_of_eq ?_) h1
        rw [Nat.mul_comm 2 rows.length, Nat.mul_assoc, Nat.mul_comm 2]
      · rw [if_neg hs2, Nat.one_mul] at q
        have e : (s :: rest).count .double_ = rest.count .double_ := by
          rw [List.count_cons]
          have : (s == Stp.double_) = false := beq_eq_false_iff_ne.mpr hs2
          rw [this]
          rfl
        rw [e] at h1
        exact Nat.le_trans (Nat.mul_le_mul_right _ q) h1
    rw [List.length_cons] at hn
    by_cases hr : remT s = true
    · rw [List.filter_cons_of_pos hr, List.length_cons] at h2
      obtain ⟨k, hk⟩ : ∃ k, k = (mem.drop found.length).headD none := ⟨_, rfl⟩
      have so := step_on_T (k := k) ok na h3 hw (by omega)
      have ma := mem_at (mem := mem) (n := found.length) (by omega)
      have rf : rowF hs mem (rows, found) s = ((stpsT hs s rows k).1, found ++ [(stpsT hs s rows k).2]) := by
        unfold rowF
        rw [if_pos hr, ← hk]
      rw [← hk] at ma
      rw [rf]
      refine ⟨_, [.sh (.tup (strL hs)), .sh (.tup (ss.map Stp.d)), .sh (.tup (mem.map wD)), .sh (.tup (strL cs)), .sh (.lst ((stpsT hs s rows k).1.map rsD)), .sh (.lst ((found ++ [(stpsT hs s rows k).2]).map wD)), .sh (.int ((found ++ [(stpsT hs s rows k).2]).length : Nat)), .sh s.d, .sh (wD (stpsT hs s rows k).2)], rfl, ?_, ?_, ?_, ?_, ?_, _, _, rfl⟩
      · have l1 : found.length + 1 ≤ 16777216 := by omega
        simp [hm1, hr, so, ma, bindP, bindL, sizeLine_eq, l1]
      · exact stpsT_wide hw
      · exact hlr _
      · simp only [List.length_append, List.length_singleton]
        omega
      · simp only [List.length_append, List.length_singleton]
        omega
    · rw [List.filter_cons_of_neg hr] at h2
      have so := step_on_T (k := none) ok na h3 hw (by omega)
      have hr' : remT s = false := by simpa using hr
      refine ⟨_, [.sh (.tup (strL hs)), .sh (.tup (ss.map Stp.d)), .sh (.tup (mem.map wD)), .sh (.tup (strL cs)), .sh (.lst ((rowF hs mem (rows, found) s).1.map rsD)), .sh (.lst ((rowF hs mem (rows, found) s).2.map wD)), .sh (.int ((rowF hs mem (rows, found) s).2.length : Nat)), .sh s.d, x8], rfl, ?_, ?_, ?_, ?_, ?_, _, _, rfl⟩
      · rw [wD_none] at so
        simp [hm1, hr', so, rowF, atI_z, sizeLine_eq]
      · simp only [rowF, hr', Bool.false_eq_true, if_false]
        exact stpsT_wide hw
      · simp only [rowF, hr', Bool.false_eq_true, if_false]
        exact hlr _
      · simp only [rowF, hr', Bool.false_eq_true, if_false]
        exact h2
      · simp only [rowF, hr', Bool.false_eq_true, if_false]
        omega
  · rintro ρ' ⟨_, _, _, _, x7, x8, rfl⟩
    rw [rowF_fold]
    refine x_ret ?_
    simp [sizeLine_eq, rowOnT]
abbrev N_all_rows : List Str := ["columns", "steps", "memory", "table", "found", "cells", "rows"]
abbrev P_all_rows : List Str := ["columns", "steps", "memory", "table"]
def S_all_rows : Sm := (.seq (.asg 4 (.lst .nil))
    (.seq (.for_ (.one 5) (.var 3)
    (.seq (.unp [6, 2] (.call "row_on" F_row_on (.cons (.var 0) (.cons (.var 1) (.cons (.var 2) (.cons (.var 5) .nil))))))
    (.seq (.asg 4 (.bin .add (.var 4) (.lst (.cons (.var 6) .nil))))
    .skip)))
    (.seq (.ret (.tup (.cons (.var 4) (.cons (.var 2) .nil))))
    .skip)))
def F_all_rows : Fn := Fn.ofX false 4 7 S_all_rows
theorem body_all_rows : Body F_all_rows 4 7 S_all_rows := body_ofX
theorem rowsT_mem {hs : List Str} : ∀ (ss : List Stp) (mem : List (Option Str)) (rows : List RowS), (rowsT hs ss mem rows).2.length = (ss.filter remT).length
  | [], _, _ => rfl
  | s :: ss, mem, rows => by
    unfold rowsT
    by_cases h : remT s = true
    · rw [if_pos h, List.filter_cons_of_pos h]
      simp [rowsT_mem ss]
    · rw [if_neg h, List.filter_cons_of_neg h]
      exact rowsT_mem ss _ _
def allF (hs : List Str) (ss : List Stp) (a : List (List RowS) × List (Option Str)) (cs : List Str) : List (List RowS) × List (Option Str) := (a.1 ++ [(rowOnT hs ss a.2 cs).1], (rowOnT hs ss a.2 cs).2)
theorem allF_fold {hs : List Str} {ss : List Stp} : ∀ (t : List (List Str)) (a : List (List RowS) × List (Option Str)), t.foldl (allF hs ss) a = (a.1 ++ (allT hs ss a.2 t).1, (allT hs ss a.2 t).2)
  | [], a => by simp [allT]
  | cs :: t, a => by
    rw [List.foldl_cons, allF_fold t]
    simp [allF, allT]
def grpD (g : List RowS) : Dt := .lst (g.map rsD)
/-- steps that may be run -/
structure RunT (hs : List Str) (ss : List Stp) : Prop where
  pl : PlT hs ss
  h3 : hs.length ≤ 3
  dbl : ss.count .double_ ≤ 10
  len : ss.length ≤ 10000
theorem all_rows_T {hs : List Str} {ss : List Stp} {mem : List (Option Str)} {t : List (List Str)} (h : RunT hs ss) (hm : mem.length = (ss.filter remT).length) (ht : ∀ cs ∈ t, cs.length = hs.length) (hl : t.length ≤ 100000) :
    F_all_rows.ex [.tup (strL hs), .tup (ss.map Stp.d), .tup (mem.map wD), .lst (t.map cellD)] = some (.tup [.lst ((allT hs ss mem t).1.map grpD), .tup ((allT hs ss mem t).2.map wD)]) := by
  show exF 4 7 S_all_rows [.tup (strL hs), .tup (ss.map Stp.d), .tup (mem.map wD), .lst (t.map cellD)] = _
  refine exF_rt rfl ?_
  unfold S_all_rows
  refine x_asg (.lst []) (by simp [ev0, sizeLine_eq]) ?_
  refine x_for cellD (fun (a : List (List RowS) × List (Option Str)) rest ρ => a.2.length = (ss.filter remT).length ∧ a.1.length + rest.length ≤ 100000 ∧ ∃ x5 x6, ρ = [.sh (.tup (strL hs)), .sh (.tup (ss.map Stp.d)), .sh (.tup (a.2.map wD)), .sh (.lst (t.map cellD)), .sh (.lst (a.1.map grpD)), x5, x6])
    (allF hs ss) (fun cs => cs.length = hs.length) t ([], mem) (D := .lst (t.map cellD)) rfl rfl ht ⟨hm, by simpa using hl, .no, .no, rfl⟩ ?_ ?_
  · rintro ⟨g, m⟩ cs rest _ hc ⟨h1, h2, x5, x6, rfl⟩
    dsimp only at h1 h2
    rw [List.length_cons] at h2
    have ro := row_on_T h.pl h.h3 h1 h.dbl h.len hc
    have l1 : g.length + 1 ≤ 16777216 := by omega
    refine ⟨_, [.sh (.tup (strL hs)), .sh (.tup (ss.map Stp.d)), .sh (.tup ((allF hs ss (g, m) cs).2.map wD)), .sh (.lst (t.map cellD)), .sh (.lst ((allF hs ss (g, m) cs).1.map grpD)), .sh (.tup (strL cs)), .sh (grpD (rowOnT hs ss m cs).1)], rfl, ?_, rowsT_mem _ _ _, ?_, _, _, rfl⟩
    · simp [cellD, ro, bindP, bindL, sizeLine_eq, l1, allF, grpD]
    · simp [allF]
      omega
  · rintro ρ' ⟨_, _, x5, x6, rfl⟩
    rw [allF_fold]
    refine x_ret ?_
    simp [sizeLine_eq]
abbrev N_empty_memory : List Str := ["steps", "step"]
abbrev P_empty_memory : List Str := ["steps"]
def S_empty_memory : Sm := (.seq (.ret (.blt .tup (.lc [("step", 1)] (.one 1) (.var 0) (.call "has_memory" F_has_memory (.cons (.var 1) .nil)) (.con .none))))
    .skip)
def F_empty_memory : Fn := Fn.ofX false 1 2 S_empty_memory
theorem body_empty_memory : Body F_empty_memory 1 2 S_empty_memory := body_ofX
theorem empty_memory_T {ss : List Stp} (hl : ss.length ≤ 10000) : F_empty_memory.ex [.tup (ss.map Stp.d)] = some (.tup ((noneT ss).map wD)) := by
  show exF 1 2 S_empty_memory [.tup (ss.map Stp.d)] = _
  have e := lc_T (own := [("step", 1)]) (pt := .one 1) (src := .var 0) (tst := .call "has_memory" F_has_memory (.cons (.var 1) .nil)) (elt := .con .none) (ρ := [.sh (.tup (ss.map Stp.d)), .no]) (D := .tup (ss.map Stp.d)) Stp.d (fun _ => .non) remT ss rfl rfl (fun s _ => by
    have hm := has_mem_T s
    unfold lcT
    cases q : remT s <;> rw [q] at hm <;> simp [bindP, wipeE, hm]) (by rw [sizeLine_eq]; omega)
  simp [exF, S_empty_memory, ev0, e, noneT, wD_none]
abbrev N_joined : List Str := ["rows", "found", "some"]
abbrev P_joined : List Str := ["rows"]
def S_joined : Sm := (.seq (.asg 1 (.lst .nil))
    (.seq (.for_ (.one 2) (.var 0)
    (.seq (.asg 1 (.bin .add (.var 1) (.var 2)))
    .skip))
    (.seq (.ret (.var 1))
    .skip)))
def F_joined : Fn := Fn.ofX false 1 3 S_joined
theorem body_joined : Body F_joined 1 3 S_joined := body_ofX
theorem fold_flat {α : Type} : ∀ (gs : List (List α)) (acc : List α), gs.foldl (fun a g => a ++ g) acc = acc ++ gs.flatten
  | [], acc => by simp
  | g :: gs, acc => by
    rw [List.foldl_cons, fold_flat gs]
    simp
theorem joined_T {gs : List (List RowS)} (hl : gs.flatten.length ≤ 16777216) : F_joined.ex [.lst (gs.map grpD)] = some (.lst (gs.flatten.map rsD)) := by
  show exF 1 3 S_joined [.lst (gs.map grpD)] = _
  refine exF_rt rfl ?_
  unfold S_joined
  refine x_asg (.lst []) (by simp [ev0, sizeLine_eq]) ?_
  refine x_for grpD (fun (a : List RowS) rest ρ => a.length + rest.flatten.length ≤ 16777216 ∧ ∃ x2, ρ = [.sh (.lst (gs.map grpD)), .sh (.lst (a.map rsD)), x2]) (fun a g => a ++ g) (fun _ => True) gs [] (D := .lst (gs.map grpD)) rfl rfl (fun _ _ => trivial) ⟨by simpa using hl, .no, rfl⟩ ?_ ?_
  · rintro a g rest _ _ ⟨h2, x2, rfl⟩
    rw [List.flatten_cons, List.length_append] at h2
    have l1 : a.length + g.length ≤ 16777216 := by omega
    refine ⟨_, [.sh (.lst (gs.map grpD)), .sh (.lst ((a ++ g).map rsD)), .sh (grpD g)], rfl, ?_, ?_, _, rfl⟩
    · simp [grpD, l1, sizeLine_eq]
    · rw [List.length_append]
      omega
  · rintro ρ' ⟨_, x2, rfl⟩
    rw [fold_flat]
    exact x_ret (by simp)
abbrev N_result_of : List Str := ["columns", "steps", "table"]
abbrev P_result_of : List Str := ["columns", "steps", "table"]
def S_result_of : Sm := (.seq (.ret (.call "joined" F_joined (.cons (.idx (.call "all_rows" F_all_rows (.cons (.var 0) (.cons (.var 1) (.cons (.call "empty_memory" F_empty_memory (.cons (.var 1) .nil)) (.cons (.var 2) .nil))))) (.con (.int 0))) .nil)))
    .skip)
def F_result_of : Fn := Fn.ofX false 3 3 S_result_of
theorem body_result_of : Body F_result_of 3 3 S_result_of := body_ofX
theorem rowsT_len {hs : List Str} : ∀ (ss : List Stp) (mem : List (Option Str)) (rows : List RowS), (rowsT hs ss mem rows).1.length ≤ rows.length * 2 ^ ss.count .double_
  | [], _, rows => by simp [rowsT]
  | s :: ss, mem, rows => by
    have key : ∀ k, (stpsT hs s rows k).1.length * 2 ^ ss.count .double_ ≤ rows.length * 2 ^ (s :: ss).count .double_ := fun k => by
      have q := stpsT_len (hs := hs) (s := s) (rows := rows) (k := k)
      by_cases hs2 : s = .double_
      · rw [if_pos hs2] at q
        rw [List.count_cons, hs2]
        simp only [beq_self_eq_true, if_true, Nat.pow_succ]
        rw [hs2] at q
        refine Nat.le_trans (Nat.mul_le_mul_right _ q) (Nat.le_of_eq ?_)
        rw [Nat.mul_comm 2 rows.length, Nat.mul_assoc, Nat.mul_comm 2]
      · rw [if_neg hs2, Nat.one_mul] at q
        have e : (s :: ss).count .double_ = ss.count .double_ := by
          rw [List.count_cons]
          have : (s == Stp.double_) = false := beq_eq_false_iff_ne.mpr hs2
          rw [this]
          rfl
        rw [e]
        exact Nat.mul_le_mul_right _ q
    unfold rowsT
    by_cases h : remT s = true
    · rw [if_pos h]
      exact Nat.le_trans (rowsT_len ss _ _) (key _)
    · rw [if_neg h]
      exact Nat.le_trans (rowsT_len ss _ _) (key _)
theorem allT_len {hs : List Str} {ss : List Stp} (hd : ss.count .double_ ≤ 10) : ∀ (t : List (List Str)) (mem : List (Option Str)), (allT hs ss mem t).1.flatten.length ≤ 1024 * t.length ∧ (allT hs ss mem t).1.length = t.length
  | [], mem => by simp [allT]
  | cs :: t, mem => by
    obtain ⟨h1, h2⟩ := allT_len (hs := hs) hd t (rowOnT hs ss mem cs).2
    have h3 := rowsT_len (hs := hs) ss mem [(cs, true)]
    have h4 : 2 ^ ss.count .double_ ≤ 2 ^ 10 := Nat.pow_le_pow_right (by decide) hd
    simp only [allT, List.flatten_cons, List.length_append, List.length_cons]
    simp only [List.length_singleton, Nat.one_mul] at h3
    have h5 : (rowOnT hs ss mem cs).1.length ≤ 1024 := Nat.le_trans h3 h4
    omega
theorem result_of_T {hs : List Str} {ss : List Stp} {t : List (List Str)} (h : RunT hs ss) (ht : ∀ cs ∈ t, cs.length = hs.length) (hl : t.length ≤ 10000) :
    F_result_of.ex [.tup (strL hs), .tup (ss.map Stp.d), .lst (t.map cellD)] = some (.lst ((resT hs ss t).map rsD)) := by
  show exF 3 3 S_result_of [.tup (strL hs), .tup (ss.map Stp.d), .lst (t.map cellD)] = _
  have e1 := empty_memory_T (ss := ss) h.len
  have e2 := all_rows_T (mem := noneT ss) h (by simp [noneT]) ht (by omega)
  have e3 := joined_T (gs := (allT hs ss (noneT ss) t).1) (by have := (allT_len (hs := hs) h.dbl t (noneT ss)).1; omega)
  simp [exF, S_result_of, ev0, e1, e2, e3, atI_z, resT]
abbrev N_need_all : List Str := ["columns", "script", "table"]
abbrev P_need_all : List Str := ["columns", "script", "table"]
def S_need_all : Sm := (.seq (.exp (.call "need_script" F_need_script (.cons (.var 0) (.cons (.var 1) .nil))))
    (.seq (.exp (.call "need_table" F_need_table (.cons (.var 0) (.cons (.var 2) .nil))))
    .skip))
def F_need_all : Fn := Fn.ofX false 3 3 S_need_all
theorem body_need_all : Body F_need_all 3 3 S_need_all := body_ofX
abbrev N_run : List Str := ["columns", "script", "table", "cells", "seen"]
abbrev P_run : List Str := ["columns", "script", "table"]
def S_run : Sm := (.seq (.exp (.call "need_all" F_need_all (.cons (.var 0) (.cons (.var 1) (.cons (.var 2) .nil)))))
    (.seq (.ret (.lc [("cells", 3), ("seen", 4)] (.many [3, 4]) (.call "result_of" F_result_of (.cons (.var 0) (.cons (.call "unfolded" F_unfolded (.cons (.var 1) .nil)) (.cons (.var 2) .nil)))) (.con (.bool true)) (.var 3)))
    .skip))
def F_run : Fn := Fn.ofX false 3 5 S_run
theorem body_run : Body F_run 3 5 S_run := body_ofX
abbrev N_seen_after : List Str := ["columns", "script", "table", "rows", "place", "row"]
abbrev P_seen_after : List Str := ["columns", "script", "table"]
def S_seen_after : Sm := (.seq (.exp (.call "need_all" F_need_all (.cons (.var 0) (.cons (.var 1) (.cons (.var 2) .nil)))))
    (.seq (.asg 3 (.call "result_of" F_result_of (.cons (.var 0) (.cons (.call "unfolded" F_unfolded (.cons (.var 1) .nil)) (.cons (.var 2) .nil)))))
    (.seq (.ret (.lc [("place", 4), ("row", 5)] (.many [4, 5]) (.enu (.var 3)) (.idx (.var 5) (.con (.int 1))) (.var 4)))
    .skip)))
def F_seen_after : Fn := Fn.ofX false 3 6 S_seen_after
theorem body_seen_after : Body F_seen_after 3 6 S_seen_after := body_ofX
abbrev N_memory_behind : List Str := ["columns", "script", "table", "steps"]
abbrev P_memory_behind : List Str := ["columns", "script", "table"]
def S_memory_behind : Sm := (.seq (.exp (.call "need_all" F_need_all (.cons (.var 0) (.cons (.var 1) (.cons (.var 2) .nil)))))
    (.seq (.asg 3 (.call "unfolded" F_unfolded (.cons (.var 1) .nil)))
    (.seq (.ret (.idx (.call "all_rows" F_all_rows (.cons (.var 0) (.cons (.var 3) (.cons (.call "empty_memory" F_empty_memory (.cons (.var 3) .nil)) (.cons (.var 2) .nil))))) (.con (.int 1))))
    .skip)))
def F_memory_behind : Fn := Fn.ofX false 3 4 S_memory_behind
theorem body_memory_behind : Body F_memory_behind 3 4 S_memory_behind := body_ofX
abbrev N_law_deck : List Str := ["cell", "turn"]
abbrev P_law_deck : List Str := ["cell", "turn"]
def S_law_deck : Sm := (.seq (.ite (.cmp .ge (.var 0) (.bin .pow (.con (.int 10)) (.con (.int 18))))
    (.seq (.ret (.lst (.cons (.bin .sub (.var 0) (.bin .pow (.con (.int 10)) (.con (.int 18)))) (.cons (.bin .mod (.var 0) (.con (.int 2147483579))) (.cons (.var 1) .nil)))))
    .skip)
    .skip)
    (.seq (.ret (.lst (.cons (.con (.int 0)) (.cons (.bin .mod (.var 0) (.con (.int 2147483579))) (.cons (.var 1) .nil)))))
    .skip))
abbrev F_law_deck : Fn := deckH
theorem body_law_deck : Body deckF 2 2 S_law_deck := by
  rintro ds S Q R ⟨cell, turn, rfl, q⟩
  refine ⟨rfl, ?_⟩
  have key : ∀ x : Int, ∃ A, Sle A S ∧ Q (.lst [.int x, .int (cell.fmod 2147483579), .int turn]) A := fun x => ⟨S, Sle.refl S, q x⟩
  have p : binD .pow (.int 10) (.int 18) = some (.int 1000000000000000000) := by rfl
  have m : binD .mod (.int cell) (.int 2147483579) = some (.int (cell.fmod 2147483579)) := by rfl
  by_cases h : 1000000000000000000 ≤ cell
  · simp [S_law_deck, ev0, p, m, h, sizeLine_eq]
    exact key _
  · simp [S_law_deck, ev0, p, m, h, sizeLine_eq]
    exact key _
abbrev N_law_pick : List Str := ["deck", "size", "found", "number"]
abbrev P_law_pick : List Str := ["deck", "size"]
def S_law_pick : Sm := (.seq (.ite (.cmp .gt (.hix 0 0) (.con (.int 1)))
    (.seq (.asg 2 (.bin .mod (.blt .int (.hix 0 0)) (.var 1)))
    (.seq (.hst 0 0 (.bin .fdiv (.hix 0 0) (.var 1)))
    (.seq (.ret (.var 2))
    .skip)))
    .skip)
    (.seq (.hst 0 2 (.bin .add (.hix 0 2) (.con (.int 1))))
    (.seq (.asg 3 (.bin .mod (.bin .pow (.bin .add (.hix 0 1) (.bin .mul (.con (.int 15485867)) (.hix 0 2))) (.con (.int 5))) (.con (.int 2147483647))))
    (.seq (.asg 2 (.bin .fdiv (.bin .mod (.bin .pow (.bin .add (.var 3) (.bin .mul (.con (.int 7919)) (.hix 0 2))) (.con (.int 3))) (.con (.int 2147483629))) (.con (.int 32))))
    (.seq (.ret (.bin .mod (.blt .int (.var 2)) (.var 1)))
    .skip)))))
def F_law_pick : Fn := Fn.drw false 1 (fun as => ∃ z : Int, as = [.int z] ∧ 0 < z ∧ z < 1000) (fun as d => ∃ z r : Int, as = [.int z] ∧ d = .int r ∧ 0 ≤ r ∧ r < z)
theorem body_law_pick : Body F_law_pick 2 4 S_law_pick := by
  refine body_drw ?_ ?_
  · rintro as ⟨z, rfl, _⟩
    rfl
  · rintro k as S R n hk hn ⟨z, rfl, hz0, hz1⟩
    have md : ∀ x : Int, binD .mod (.int x) (.int z) = some (.int (x.fmod z)) := fun x => if_pos (by omega)
    have fd : ∀ x : Int, binD .fdiv (.int x) (.int z) = some (.int (x.fdiv z)) := fun x => if_pos (by omega)
    have r0 : ∀ x : Int, 0 ≤ x.fmod z ∧ x.fmod z < z := fun x => ⟨Int.fmod_nonneg_of_pos _ hz0, Int.fmod_lt_of_pos _ hz0⟩
    have hkl := (List.getElem?_eq_some_iff.mp hk).1
    simp only [S_law_pick, ev0, wps_seq, wps_ite, wp_cmp, wp_hix]
    simp [hk, deckRd]
    intro x
    by_cases hx : 1 < x
    · simp [hx, md, fd, deckWr, hk, deckRd]
      intro x2
      exact ⟨n, by omega, rfl, (r0 x2).1, (r0 x2).2⟩
    · simp [hx, deckWr, hk, deckRd]
      intro c hc0 hc1
      refine ⟨by omega, n - 1, by omega, ?_⟩
      simp [hkl]
      intro y hy0 hy1 c2 hc2 hc3
      have p1 : binD .mul (.int 15485867) (.int c2) = some (.int (15485867 * c2)) := by rw [bin_mul_i, if_pos (.inl (by decide))]
      have p2 : binD .pow (.int (y + 15485867 * c2)) (.int 5) = some (.int ((y + 15485867 * c2) ^ 5)) := if_pos ⟨by decide, by decide, by omega⟩
      have p3 : ∀ x : Int, binD .mod (.int x) (.int 2147483647) = some (.int (x.fmod 2147483647)) := fun x => rfl
      simp [p1, p2, p3, hkl]
      intro c3 hc4 hc5
      have q0 := Int.fmod_nonneg_of_pos ((y + 15485867 * c2) ^ 5) (b := 2147483647) (by decide)
      have q1 := Int.fmod_lt_of_pos ((y + 15485867 * c2) ^ 5) (b := 2147483647) (by decide)
      generalize ((y + 15485867 * c2) ^ 5).fmod 2147483647 = u at q0 q1
      have p4 : binD .mul (.int 7919) (.int c3) = some (.int (7919 * c3)) := by rw [bin_mul_i, if_pos (.inl (by decide))]
      have p5 : binD .pow (.int (u + 7919 * c3)) (.int 3) = some (.int ((u + 7919 * c3) ^ 3)) := if_pos ⟨by decide, by decide, by omega⟩
      have p6 : ∀ x : Int, binD .mod (.int x) (.int 2147483629) = some (.int (x.fmod 2147483629)) := fun x => rfl
      have p7 : ∀ x : Int, binD .fdiv (.int x) (.int 32) = some (.int (x.fdiv 32)) := fun x => rfl
      simp [p4, p5, p6, p7, md]
      exact ⟨n - 1, by omega, rfl, (r0 _).1, (r0 _).2⟩
abbrev N_law_one : List Str := ["deck", "some"]
abbrev P_law_one : List Str := ["deck", "some"]
def S_law_one : Sm := (.seq (.ret (.idx (.var 1) (.call "_law_pick" F_law_pick (.cons (.var 0) (.cons (.blt .len (.var 1)) .nil)))))
    .skip)
def F_law_one : Fn := Fn.drw false 1 (fun as => ∃ xs, (as = [.lst xs] ∨ as = [.tup xs]) ∧ 0 < xs.length ∧ xs.length < 1000) (fun as d => ∃ xs, (as = [.lst xs] ∨ as = [.tup xs]) ∧ d ∈ xs)
theorem body_law_one : Body F_law_one 2 2 S_law_one := by
  refine body_dk ?_ ?_
  · rintro as ⟨xs, rfl | rfl, _⟩ <;> rfl
  · rintro k as S R n hk hn ⟨xs, h, hl0, hl1⟩
    rcases h with rfl | rfl
    · simp [S_law_one, ev0]
      refine drw_dk hk hn ⟨_, rfl, by omega, by omega⟩ ?_
      rintro _ ⟨z, r, e, rfl, h0, h1⟩
      cases e
      obtain ⟨d, e1, e2⟩ := atI_in h0 h1
      simp [e1]
      exact ⟨n - 1, by omega, rfl, e2⟩
    · simp [S_law_one, ev0]
      refine drw_dk hk hn ⟨_, rfl, by omega, by omega⟩ ?_
      rintro _ ⟨z, r, e, rfl, h0, h1⟩
      cases e
      obtain ⟨d, e1, e2⟩ := atI_in h0 h1
      simp [e1]
      exact ⟨n - 1, by omega, rfl, e2⟩
abbrev N_law_columns : List Str := ["deck", "some"]
abbrev P_law_columns : List Str := ["deck"]
def S_law_columns : Sm := (.seq (.asg 1 (.lst (.cons (.tup (.cons (.con (.str "a")) .nil)) (.cons (.tup (.cons (.con (.str "a")) (.cons (.con (.str "b")) .nil))) (.cons (.tup (.cons (.con (.str "a")) (.cons (.con (.str "b")) .nil))) (.cons (.tup (.cons (.con (.str "a")) (.cons (.con (.str "b")) (.cons (.con (.str "c")) .nil)))) (.cons (.tup (.cons (.con (.str "is")) (.cons (.con (.str "zzzzzzzz")) .nil))) (.cons (.tup (.cons (.con (.str "above")) (.cons (.con (.str "all")) (.cons (.con (.str "show")) .nil)))) .nil))))))))
    (.seq (.ret (.call "_law_one" F_law_one (.cons (.var 0) (.cons (.var 1) .nil))))
    .skip))
def columnsL : List Dt := [.tup [.str "a"], .tup [.str "a", .str "b"], .tup [.str "a", .str "b"], .tup [.str "a", .str "b", .str "c"], .tup [.str "is", .str "zzzzzzzz"], .tup [.str "above", .str "all", .str "show"]]
def F_law_columns : Fn := Fn.drw false 1 (fun as => as = []) (fun _ d => d ∈ columnsL)
theorem body_law_columns : Body F_law_columns 1 2 S_law_columns := by
  refine body_dk (fun as h => by subst h; rfl) ?_
  rintro k as S R n hk hn rfl
  simp [S_law_columns, ev0, sizeLine_eq]
  refine drw_dk hk hn ⟨columnsL, .inl rfl, by decide, by decide⟩ ?_
  rintro d ⟨xs, h | h, hd⟩
  · cases h
    exact ⟨n - 1, by omega, rfl, hd⟩
  · cases h
abbrev N_law_words : List Str := ["deck"]
abbrev P_law_words : List Str := ["deck"]
def S_law_words : Sm := (.seq (.ret (.call "_law_one" F_law_one (.cons (.var 0) (.cons (.lst (.cons (.lst (.cons (.con (.str "")) (.cons (.con (.str "x")) .nil))) (.cons (.lst (.cons (.con (.str "")) (.cons (.con (.str "x")) (.cons (.con (.str "y")) .nil)))) (.cons (.lst (.cons (.con (.str "")) (.cons (.con (.str "a")) (.cons (.con (.str "zzzzzzzz")) .nil)))) (.cons (.lst (.cons (.con (.str "")) (.cons (.con (.str "drop")) .nil))) (.cons (.lst (.cons (.con (.str "")) (.cons (.con (.str "m")) (.cons (.con (.str "n")) (.cons (.con (.str "o")) .nil))))) .nil)))))) .nil))))
    .skip)
def wordsL : List Dt := [.lst [.str "", .str "x"], .lst [.str "", .str "x", .str "y"], .lst [.str "", .str "a", .str "zzzzzzzz"], .lst [.str "", .str "drop"], .lst [.str "", .str "m", .str "n", .str "o"]]
def F_law_words : Fn := Fn.drw false 1 (fun as => as = []) (fun _ d => d ∈ wordsL)
theorem body_law_words : Body F_law_words 1 1 S_law_words := by
  refine body_dk (fun as h => by subst h; rfl) ?_
  rintro k as S R n hk hn rfl
  simp [S_law_words, ev0, sizeLine_eq]
  refine drw_dk hk hn ⟨wordsL, .inl rfl, by decide, by decide⟩ ?_
  rintro d ⟨xs, h | h, hd⟩
  · cases h
    exact ⟨n - 1, by omega, rfl, hd⟩
  · cases h
abbrev N_law_test : List Str := ["deck", "heads", "words", "way", "at"]
abbrev P_law_test : List Str := ["deck", "heads", "words"]
def S_law_test : Sm := (.seq (.par 3 4 false false (.call "_law_pick" F_law_pick (.cons (.var 0) (.cons (.con (.int 6)) .nil))) (.call "_law_pick" F_law_pick (.cons (.var 0) (.cons (.blt .len (.var 1)) .nil))))
    (.seq (.ite (.and (.cmp .eq (.var 3) (.con (.int 0))) (.cmp .gt (.blt .len (.var 1)) (.con (.int 1))))
    (.seq (.ret (.tup (.cons (.con (.str "same")) (.cons (.idx (.var 1) (.var 4)) (.cons (.idx (.var 1) (.bin .sub (.var 4) (.con (.int 1)))) .nil)))))
    .skip)
    .skip)
    (.seq (.ite (.cmp .lt (.var 3) (.con (.int 3)))
    (.seq (.ret (.tup (.cons (.con (.str "above")) (.cons (.idx (.var 1) (.var 4)) .nil))))
    .skip)
    .skip)
    (.seq (.ret (.tup (.cons (.con (.str "is")) (.cons (.idx (.var 1) (.var 4)) (.cons (.call "_law_one" F_law_one (.cons (.var 0) (.cons (.var 2) .nil))) .nil)))))
    .skip))))
def pairsOf (hs : List Dt) : List (Dt × Dt) := (List.range hs.length).filterMap fun (i : Nat) => (atI hs (i : Int)).bind fun a => (atI hs ((i : Int) - 1)).map fun b => (a, b)
theorem pairs_mem {hs : List Dt} {i : Int} {a b : Dt} (h0 : 0 ≤ i) (h1 : i < hs.length) (ha : atI hs i = some a) (hb : atI hs (i - 1) = some b) : (a, b) ∈ pairsOf hs := by
  refine List.mem_filterMap.mpr ⟨i.toNat, List.mem_range.mpr (by omega), ?_⟩
  have e : ((i.toNat : Nat) : Int) = i := by omega
  rw [e, ha, Option.bind_some, hb]
  rfl
def testsOf (hs ws : List Dt) : List Dt := (if hs.length > 1 then (pairsOf hs).map fun p => .tup [.str "same", p.1, p.2] else []) ++ hs.map (fun h => .tup [.str "above", h]) ++ hs.flatMap fun h => ws.map fun w => .tup [.str "is", h, w]
theorem tests_same {hs ws : List Dt} {a b : Dt} (hl : 1 < hs.length) (h : (a, b) ∈ pairsOf hs) : .tup [.str "same", a, b] ∈ testsOf hs ws := by
  unfold testsOf
  rw [if_pos hl]
  exact List.mem_append_left _ (List.mem_append_left _ (List.mem_map.mpr ⟨_, h, rfl⟩))
theorem tests_above {hs ws : List Dt} {a : Dt} (h : a ∈ hs) : .tup [.str "above", a] ∈ testsOf hs ws := List.mem_append_left _ (List.mem_append_right _ (List.mem_map.mpr ⟨_, h, rfl⟩))
theorem tests_is {hs ws : List Dt} {a w : Dt} (h : a ∈ hs) (hw : w ∈ ws) : .tup [.str "is", a, w] ∈ testsOf hs ws := List.mem_append_right _ (List.mem_flatMap.mpr ⟨_, h, List.mem_map.mpr ⟨_, hw, rfl⟩⟩)
def HW (as hs ws : List Dt) : Prop := as = [.tup hs, .lst ws] ∧ 0 < hs.length ∧ hs.length < 1000 ∧ 0 < ws.length ∧ ws.length < 1000
def F_law_test : Fn := Fn.drw false 3 (fun as => ∃ hs ws, HW as hs ws) (fun as d => ∃ hs ws, as = [.tup hs, .lst ws] ∧ d ∈ testsOf hs ws)
theorem body_law_test : Body F_law_test 3 5 S_law_test := by
  refine body_dk ?_ ?_
  · rintro as ⟨hs, ws, rfl, _⟩
    rfl
  · rintro k as S R n hk hn ⟨hs, ws, rfl, h1, h2, h3, h4⟩
    simp [S_law_test, ev0]
    refine drw_dk hk (by omega) ⟨_, rfl, by omega, by omega⟩ ?_
    rintro _ ⟨z, way, e, rfl, w0, w1⟩
    cases e
    simp
    refine drw_dk hk (by omega) ⟨_, rfl, by omega, by omega⟩ ?_
    rintro _ ⟨z, i, e, rfl, i0, i1⟩
    cases e
    obtain ⟨a, ea, ma⟩ := atI_in i0 i1
    obtain ⟨b, eb, mb⟩ := atI_back i0 i1
    by_cases hz : way = 0
    · by_cases hl : (1 : Int) < hs.length
      · simp [hz, hl, ea, eb, sizeLine_eq]
        exact ⟨n - 1 - 1, by omega, rfl, hs, ws, ⟨rfl, rfl⟩, tests_same (by omega) (pairs_mem i0 i1 ea eb)⟩
      · simp [hz, hl, ea, sizeLine_eq]
        exact ⟨n - 1 - 1, by omega, rfl, hs, ws, ⟨rfl, rfl⟩, tests_above ma⟩
    · by_cases h3 : way < 3
      · simp [hz, h3, ea, sizeLine_eq]
        exact ⟨n - 1 - 1, by omega, rfl, hs, ws, ⟨rfl, rfl⟩, tests_above ma⟩
      · simp [hz, h3, ea, sizeLine_eq]
        refine drw_dk hk (by omega) ⟨_, .inl rfl, by omega, by omega⟩ ?_
        rintro w ⟨xs, h | h, hw⟩
        · cases h
          exact ⟨n - 1 - 1 - 1, by omega, rfl, hs, ws, ⟨rfl, rfl⟩, tests_is ma hw⟩
        · cases h
abbrev N_law_step : List Str := ["deck", "heads", "words", "way", "at"]
abbrev P_law_step : List Str := ["deck", "heads", "words"]
def S_law_step : Sm := (.seq (.par 3 4 false false (.call "_law_pick" F_law_pick (.cons (.var 0) (.cons (.con (.int 16)) .nil))) (.call "_law_pick" F_law_pick (.cons (.var 0) (.cons (.blt .len (.var 1)) .nil))))
    (.seq (.ite (.cmp .lt (.var 3) (.con (.int 5)))
    (.seq (.ret (.tup (.cons (.call "_law_one" F_law_one (.cons (.var 0) (.cons (.lst (.cons (.con (.str "show")) (.cons (.con (.str "hide")) .nil))) .nil))) (.cons (.call "_law_test" F_law_test (.cons (.var 0) (.cons (.var 1) (.cons (.var 2) .nil)))) .nil))))
    .skip)
    .skip)
    (.seq (.ite (.cmp .lt (.var 3) (.con (.int 8)))
    (.seq (.ret (.tup (.cons (.con (.str "put")) (.cons (.idx (.var 1) (.var 4)) (.cons (.call "_law_one" F_law_one (.cons (.var 0) (.cons (.var 2) .nil))) .nil)))))
    .skip)
    .skip)
    (.seq (.ite (.and (.cmp .eq (.var 3) (.con (.int 8))) (.cmp .gt (.blt .len (.var 1)) (.con (.int 1))))
    (.seq (.ret (.tup (.cons (.con (.str "take")) (.cons (.idx (.var 1) (.var 4)) (.cons (.idx (.var 1) (.bin .sub (.var 4) (.con (.int 1)))) .nil)))))
    .skip)
    .skip)
    (.seq (.ite (.cmp .lt (.var 3) (.con (.int 11)))
    (.seq (.ret (.tup (.cons (.call "_law_one" F_law_one (.cons (.var 0) (.cons (.lst (.cons (.con (.str "first")) (.cons (.con (.str "down")) (.cons (.con (.str "down")) .nil)))) .nil))) (.cons (.idx (.var 1) (.var 4)) .nil))))
    .skip)
    .skip)
    (.seq (.ret (.tup (.cons (.call "_law_one" F_law_one (.cons (.var 0) (.cons (.lst (.cons (.con (.str "all")) (.cons (.con (.str "again")) (.cons (.con (.str "drop")) (.cons (.con (.str "double")) (.cons (.con (.str "all")) .nil)))))) .nil))) .nil)))
    .skip))))))
def stepsOf (hs ws : List Dt) : List Dt := (testsOf hs ws).map (fun t => .tup [.str "show", t]) ++ (testsOf hs ws).map (fun t => .tup [.str "hide", t]) ++ (hs.flatMap fun h => ws.map fun w => .tup [.str "put", h, w]) ++
  (if hs.length > 1 then (pairsOf hs).map fun p => .tup [.str "take", p.1, p.2] else []) ++ hs.map (fun h => .tup [.str "first", h]) ++ hs.map (fun h => .tup [.str "down", h]) ++ [.tup [.str "all"], .tup [.str "again"], .tup [.str "drop"], .tup [.str "double"]]
theorem steps_show {hs ws : List Dt} {t w : Dt} (h : t ∈ testsOf hs ws) (hw : w ∈ [.str "show", .str "hide"]) : .tup [w, t] ∈ stepsOf hs ws := by
  unfold stepsOf
  simp only [List.mem_append, List.mem_map]
  simp only [List.mem_cons, List.not_mem_nil, or_false] at hw
  rcases hw with rfl | rfl
  · exact .inl (.inl (.inl (.inl (.inl (.inl ⟨t, h, rfl⟩)))))
  · exact .inl (.inl (.inl (.inl (.inl (.inr ⟨t, h, rfl⟩)))))
theorem steps_put {hs ws : List Dt} {a w : Dt} (h : a ∈ hs) (hw : w ∈ ws) : .tup [.str "put", a, w] ∈ stepsOf hs ws := by
  unfold stepsOf
  simp only [List.mem_append, List.mem_map, List.mem_flatMap]
  exact .inl (.inl (.inl (.inl (.inr ⟨a, h, w, hw, rfl⟩))))
theorem steps_take {hs ws : List Dt} {a b : Dt} (hl : 1 < hs.length) (h : (a, b) ∈ pairsOf hs) : .tup [.str "take", a, b] ∈ stepsOf hs ws := by
  unfold stepsOf
  rw [if_pos hl]
  simp only [List.mem_append, List.mem_map, List.mem_flatMap]
  exact .inl (.inl (.inl (.inr ⟨_, h, rfl⟩)))
theorem steps_col {hs ws : List Dt} {a w : Dt} (h : a ∈ hs) (hw : w ∈ [.str "first", .str "down", .str "down"]) : .tup [w, a] ∈ stepsOf hs ws := by
  unfold stepsOf
  simp only [List.mem_append, List.mem_map, List.mem_flatMap]
  simp only [List.mem_cons, List.not_mem_nil, or_false] at hw
  rcases hw with rfl | rfl | rfl
  · exact .inl (.inl (.inr ⟨_, h, rfl⟩))
  · exact .inl (.inr ⟨_, h, rfl⟩)
  · exact .inl (.inr ⟨_, h, rfl⟩)
theorem steps_plain {hs ws : List Dt} {w : Dt} (hw : w ∈ [.str "all", .str "again", .str "drop", .str "double", .str "all"]) : .tup [w] ∈ stepsOf hs ws := by
  refine List.mem_append_right _ ?_
  simp only [List.mem_cons, List.not_mem_nil, or_false] at hw ⊢
  rcases hw with rfl | rfl | rfl | rfl | rfl <;> simp
def F_law_step : Fn := Fn.drw false 6 (fun as => ∃ hs ws, HW as hs ws) (fun as d => ∃ hs ws, as = [.tup hs, .lst ws] ∧ d ∈ stepsOf hs ws)
theorem body_law_step : Body F_law_step 3 5 S_law_step := by
  refine body_dk ?_ ?_
  · rintro as ⟨hs, ws, rfl, _⟩
    rfl
  · rintro k as S R n hk hn ⟨hs, ws, rfl, h1, h2, h3, h4⟩
    simp [S_law_step, ev0]
    refine drw_dk hk (by omega) ⟨_, rfl, by omega, by omega⟩ ?_
    rintro _ ⟨z, way, e, rfl, w0, w1⟩
    cases e
    simp
    refine drw_dk hk (by omega) ⟨_, rfl, by omega, by omega⟩ ?_
    rintro _ ⟨z, i, e, rfl, i0, i1⟩
    cases e
    obtain ⟨a, ea, ma⟩ := atI_in i0 i1
    obtain ⟨b, eb, mb⟩ := atI_back i0 i1
    by_cases q1 : way < 5
    · simp [q1, sizeLine_eq]
      refine drw_dk hk (by omega) ⟨_, .inl rfl, by decide, by decide⟩ ?_
      rintro w ⟨xs, h | h, hw⟩
      · cases h
        refine drw_dk hk (by omega) ⟨hs, ws, rfl, h1, h2, h3, h4⟩ ?_
        rintro t ⟨hs', ws', h, ht⟩
        cases h
        exact ⟨n - 1 - 1 - 1 - 3, by omega, rfl, hs, ws, ⟨rfl, rfl⟩, steps_show ht hw⟩
      · cases h
    · by_cases q2 : way < 8
      · simp [q1, q2, ea, sizeLine_eq]
        refine drw_dk hk (by omega) ⟨_, .inl rfl, by omega, by omega⟩ ?_
        rintro w ⟨xs, h | h, hw⟩
        · cases h
          exact ⟨n - 1 - 1 - 1, by omega, rfl, hs, ws, ⟨rfl, rfl⟩, steps_put ma hw⟩
        · cases h
      · by_cases q3 : way = 8 ∧ (1 : Int) < hs.length
        · obtain ⟨q3, hl⟩ := q3
          simp [q3, hl, ea, eb, sizeLine_eq]
          exact ⟨n - 1 - 1, by omega, rfl, hs, ws, ⟨rfl, rfl⟩, steps_take (by omega) (pairs_mem i0 i1 ea eb)⟩
        · by_cases q4 : way < 11
          · by_cases q5 : way = 8
            · have hl : ¬ (1 : Int) < hs.length := fun z => q3 ⟨q5, z⟩
              simp [q5, hl, ea, sizeLine_eq]
              refine drw_dk hk (by omega) ⟨_, .inl rfl, by decide, by decide⟩ ?_
              rintro w ⟨xs, h | h, hw⟩
              · cases h
                exact ⟨n - 1 - 1 - 1, by omega, rfl, hs, ws, ⟨rfl, rfl⟩, steps_col ma hw⟩
              · cases h
            · simp [q1, q2, q4, q5, ea, sizeLine_eq]
              refine drw_dk hk (by omega) ⟨_, .inl rfl, by decide, by decide⟩ ?_
              rintro w ⟨xs, h | h, hw⟩
              · cases h
                exact ⟨n - 1 - 1 - 1, by omega, rfl, hs, ws, ⟨rfl, rfl⟩, steps_col ma hw⟩
              · cases h
          · have q5 : ¬ way = 8 := by omega
            simp [q1, q2, q4, q5, sizeLine_eq]
            refine drw_dk hk (by omega) ⟨_, .inl rfl, by decide, by decide⟩ ?_
            rintro w ⟨xs, h | h, hw⟩
            · cases h
              exact ⟨n - 1 - 1 - 1, by omega, rfl, hs, ws, ⟨rfl, rfl⟩, steps_plain hw⟩
            · cases h
theorem okD_step (s : Stp) : okD 5 s.d = true := by
  cases s with
  | show_ t => cases t <;> rfl
  | hide_ t => cases t <;> rfl
  | _ => rfl
/-- a step of these columns -/
structure StG (hs : List Str) (s : Stp) : Prop where
  ok : F_is_step_of.ex [colD hs, s.d] = some (.bl true)
  col : s.okC hs
  nm : ∀ w ∈ s.nm, w ∈ allWs
def isT : Option Dt → Bool
  | some (.bl true) => true
  | _ => false
theorem isT_eq {x : Option Dt} (h : isT x = true) : x = some (.bl true) := by
  unfold isT at h
  split at h
  · rfl
  · cases h
def fG (hs : List Str) (s : Dt) : Bool := match unD s with
  | some st => isT (F_is_step_of.ex [colD hs, s]) && decide (st.okC hs) && decide (∀ w ∈ st.nm, w ∈ allWs)
  | none => false
def stpA (hs : List Str) : List Dt := stepsOf (strL hs) (strL allWs)
theorem un0 : (stpA ["a"]).map (fun s => (unD s).map Stp.d) = (stpA ["a"]).map some := by kernel_rfl
theorem un1 : (stpA ["a", "b"]).map (fun s => (unD s).map Stp.d) = (stpA ["a", "b"]).map some := by kernel_rfl
theorem un2 : (stpA ["a", "b", "c"]).map (fun s => (unD s).map Stp.d) = (stpA ["a", "b", "c"]).map some := by kernel_rfl
theorem un3 : (stpA ["is", "zzzzzzzz"]).map (fun s => (unD s).map Stp.d) = (stpA ["is", "zzzzzzzz"]).map some := by kernel_rfl
theorem un4 : (stpA ["above", "all", "show"]).map (fun s => (unD s).map Stp.d) = (stpA ["above", "all", "show"]).map some := by kernel_rfl
theorem un5 : (stpA ["is"]).map (fun s => (unD s).map Stp.d) = (stpA ["is"]).map some := by kernel_rfl
theorem fg0 : (stpA ["a"]).all (fG ["a"]) = true := by kernel_rfl
theorem fg1 : (stpA ["a", "b"]).all (fG ["a", "b"]) = true := by kernel_rfl
theorem fg2 : (stpA ["a", "b", "c"]).all (fG ["a", "b", "c"]) = true := by kernel_rfl
theorem fg3 : (stpA ["is", "zzzzzzzz"]).all (fG ["is", "zzzzzzzz"]) = true := by kernel_rfl
theorem fg4 : (stpA ["above", "all", "show"]).all (fG ["above", "all", "show"]) = true := by kernel_rfl
theorem fg5 : (stpA ["is"]).all (fG ["is"]) = true := by kernel_rfl
theorem stG_of {hs : List Str} (hu : (stpA hs).map (fun s => (unD s).map Stp.d) = (stpA hs).map some) (hf : (stpA hs).all (fG hs) = true) : ∀ s ∈ stpA hs, ∃ st, s = Stp.d st ∧ StG hs st := fun s h => by
  have h1 := List.map_inj_left.mp hu s h
  have h2 := List.all_eq_true.mp hf s h
  unfold fG at h2
  cases e : unD s with
  | none => rw [e] at h1; cases h1
  | some st =>
    rw [e] at h1 h2
    have h3 : s = st.d := (Option.some.inj h1).symm
    simp only [Bool.and_eq_true, decide_eq_true_eq] at h2
    exact ⟨st, h3, by rw [← h3]; exact isT_eq h2.1.1, h2.1.2, h2.2⟩
theorem tests_mono {hs ws ws' : List Dt} (h : ∀ x ∈ ws, x ∈ ws') : ∀ s ∈ testsOf hs ws, s ∈ testsOf hs ws' := by
  intro s hs1
  unfold testsOf at hs1 ⊢
  rcases List.mem_append.mp hs1 with q | q
  · exact List.mem_append_left _ q
  · refine List.mem_append_right _ ?_
    obtain ⟨a, ha, q⟩ := List.mem_flatMap.mp q
    obtain ⟨w, hw, q⟩ := List.mem_map.mp q
    exact List.mem_flatMap.mpr ⟨a, ha, List.mem_map.mpr ⟨w, h w hw, q⟩⟩
theorem steps_mono {hs ws ws' : List Dt} (h : ∀ x ∈ ws, x ∈ ws') : ∀ s ∈ stepsOf hs ws, s ∈ stepsOf hs ws' := by
  intro s hs1
  unfold stepsOf at hs1 ⊢
  simp only [List.mem_append, List.mem_map, List.mem_flatMap] at hs1 ⊢
  rcases hs1 with (((((⟨t, ht, q⟩ | ⟨t, ht, q⟩) | ⟨a, ha, w, hw, q⟩) | q) | q) | q) | q
  · exact .inl (.inl (.inl (.inl (.inl (.inl ⟨t, tests_mono h t ht, q⟩)))))
  · exact .inl (.inl (.inl (.inl (.inl (.inr ⟨t, tests_mono h t ht, q⟩)))))
  · exact .inl (.inl (.inl (.inl (.inr ⟨a, ha, w, h w hw, q⟩))))
  · exact .inl (.inl (.inl (.inr q)))
  · exact .inl (.inl (.inr q))
  · exact .inl (.inr q)
  · exact .inr q
theorem stG {hs ws : List Str} (hc : hs ∈ colsA) (hw : ∀ w ∈ ws, w ∈ allWs) : ∀ s ∈ stepsOf (strL hs) (strL ws), ∃ st, s = Stp.d st ∧ StG hs st := fun s h => by
  have h' : s ∈ stpA hs := steps_mono (fun x hx => by
    obtain ⟨w, hw', rfl⟩ := List.mem_map.mp hx
    exact List.mem_map.mpr ⟨w, hw w hw', rfl⟩) s h
  simp only [colsA, List.mem_cons, List.not_mem_nil, or_false] at hc
  rcases hc with rfl | rfl | rfl | rfl | rfl | rfl
  · exact stG_of un0 fg0 s h'
  · exact stG_of un1 fg1 s h'
  · exact stG_of un2 fg2 s h'
  · exact stG_of un3 fg3 s h'
  · exact stG_of un4 fg4 s h'
  · exact stG_of un5 fg5 s h'
theorem cols_need : ∀ hs ∈ colsA, F_need_columns.ex [colD hs] = some .non ∧ 0 < hs.length ∧ hs.length ≤ 3 ∧ hs.Nodup ∧ (∀ x ∈ hs, x ≠ "" ∧ x.length ≤ 8) := by
  intro c hc
  simp only [colsA, List.mem_cons, List.not_mem_nil, or_false] at hc
  rcases hc with rfl | rfl | rfl | rfl | rfl | rfl <;> exact ⟨by kernel_rfl, by decide, by decide, by decide +kernel, by decide +kernel⟩
theorem typed_list {hs : List Str} : ∀ sts : List Dt, (∀ s ∈ sts, ∃ st, s = Stp.d st ∧ StG hs st) → ∃ ss : List Stp, sts = ss.map Stp.d ∧ ∀ s ∈ ss, StG hs s
  | [], _ => ⟨[], rfl, fun _ h => nomatch h⟩
  | s :: sts, h => by
    obtain ⟨st, e, g⟩ := h s List.mem_cons_self
    obtain ⟨ss, e2, g2⟩ := typed_list sts fun x hx => h x (List.mem_cons_of_mem _ hx)
    exact ⟨st :: ss, by rw [e, e2]; rfl, fun x hx => by
      rcases List.mem_cons.mp hx with rfl | hx
      · exact g
      · exact g2 x hx⟩
theorem bools_true {α : Type} : ∀ sts : List α, boolsOf (sts.map fun _ => Dt.bl true) = some (sts.map fun _ => true)
  | [] => rfl
  | s :: sts => by
    show (boolsOf (sts.map fun _ => Dt.bl true)).map (true :: ·) = _
    rw [bools_true sts]
    rfl
theorem all_true {α : Type} (sts : List α) : bltD .all (.lst (sts.map fun _ => .bl true)) = some (.bl true) := by
  show (boolsOf _).map _ = _
  rw [bools_true]
  simp
theorem colsL_typed : ∀ c ∈ columnsL, ∃ hs ∈ colsA, c = colD hs := by
  intro c hc
  simp only [columnsL, List.mem_cons, List.not_mem_nil, or_false] at hc
  rcases hc with rfl | rfl | rfl | rfl | rfl | rfl
  · exact ⟨["a"], by decide +kernel, rfl⟩
  · exact ⟨["a", "b"], by decide +kernel, rfl⟩
  · exact ⟨["a", "b"], by decide +kernel, rfl⟩
  · exact ⟨["a", "b", "c"], by decide +kernel, rfl⟩
  · exact ⟨["is", "zzzzzzzz"], by decide +kernel, rfl⟩
  · exact ⟨["above", "all", "show"], by decide +kernel, rfl⟩
theorem wordsL_typed : ∀ c ∈ wordsL, ∃ ws : List Str, (∀ w ∈ ws, w ∈ allWs) ∧ c = .lst (strL ws) ∧ 0 < ws.length ∧ ws.length ≤ 4 ∧ ("" : Str) ∈ ws := by
  intro c hc
  simp only [wordsL, List.mem_cons, List.not_mem_nil, or_false] at hc
  rcases hc with rfl | rfl | rfl | rfl | rfl
  · exact ⟨["", "x"], by decide +kernel, rfl, by decide, by decide, by decide +kernel⟩
  · exact ⟨["", "x", "y"], by decide +kernel, rfl, by decide, by decide, by decide +kernel⟩
  · exact ⟨["", "a", "zzzzzzzz"], by decide +kernel, rfl, by decide, by decide, by decide +kernel⟩
  · exact ⟨["", "drop"], by decide +kernel, rfl, by decide, by decide, by decide +kernel⟩
  · exact ⟨["", "m", "n", "o"], by decide +kernel, rfl, by decide, by decide, by decide +kernel⟩
theorem hw_T {hs ws : List Str} (hc : hs ∈ colsA) (hl : 0 < ws.length) (hl2 : ws.length ≤ 4) : HW [colD hs, .lst (strL ws)] (strL hs) (strL ws) := by
  have h := cols_need hs hc
  refine ⟨rfl, ?_, ?_, ?_, ?_⟩ <;> rw [List.length_map] <;> omega
/-- a step is drawn -/
theorem step_dk {hs ws : List Str} {k n : Nat} {S : Store} {Q : DK} {R : XR} (hk : k < S.length) (hn : 6 ≤ n) (hc : hs ∈ colsA) (hw : ∀ w ∈ ws, w ∈ allWs) (hl : 0 < ws.length) (hl2 : ws.length ≤ 4)
    (h : ∀ s : Stp, StG hs s → Q s.d (Dk S k (n - 6))) : F_law_step.run [.hdl k, colD hs, .lst (strL ws)] (Dk S k n) Q R := by
  refine drw_dk hk hn ⟨strL hs, strL ws, hw_T hc hl hl2⟩ ?_
  rintro s ⟨hs', ws', e, so⟩
  have e1 : strL hs = hs' := Dt.tup.inj (List.cons.inj e).1
  have e2 : strL ws = ws' := Dt.lst.inj (List.cons.inj (List.cons.inj e).2).1
  subst e1 e2
  obtain ⟨st, rfl, g⟩ := stG hc hw s so
  exact h st g
theorem columns_dk {k n : Nat} {S : Store} {Q : DK} {R : XR} (hk : k < S.length) (hn : 1 ≤ n) (h : ∀ hs ∈ colsA, Q (colD hs) (Dk S k (n - 1))) : F_law_columns.run [.hdl k] (Dk S k n) Q R := by
  refine drw_dk hk hn rfl fun c hc => ?_
  obtain ⟨hs, h1, rfl⟩ := colsL_typed c hc
  exact h hs h1
theorem words_dk {k n : Nat} {S : Store} {Q : DK} {R : XR} (hk : k < S.length) (hn : 1 ≤ n) (h : ∀ ws : List Str, (∀ w ∈ ws, w ∈ allWs) → 0 < ws.length → ws.length ≤ 4 → ("" : Str) ∈ ws → Q (.lst (strL ws)) (Dk S k (n - 1))) : F_law_words.run [.hdl k] (Dk S k n) Q R := by
  refine drw_dk hk hn rfl fun c hc => ?_
  obtain ⟨ws, h1, rfl, h2, h3, h4⟩ := wordsL_typed c hc
  exact h ws h1 h2 h3 h4
abbrev N_law_plain : List Str := ["script", "found", "begun", "k", "step", "filters", "one"]
abbrev P_law_plain : List Str := ["script"]
def S_law_plain : Sm := (.seq (.par 1 2 true false (.lst .nil) (.con (.int 0)))
    (.seq (.for_ (.many [3, 4]) (.enu (.var 0))
    (.seq (.ite (.cmp .eq (.idx (.var 4) (.con (.int 0))) (.con (.str "all")))
    (.seq (.asg 2 (.bin .add (.var 3) (.con (.int 1))))
    .skip)
    .skip)
    (.seq (.ite (.cmp .eq (.idx (.var 4) (.con (.int 0))) (.con (.str "again")))
    (.seq (.asg 5 (.lc [("one", 6)] (.one 6) (.slc (.var 0) (.var 2) (.var 3)) (.cmp .isin (.idx (.var 6) (.con (.int 0))) (.tup (.cons (.con (.str "show")) (.cons (.con (.str "hide")) .nil)))) (.var 6)))
    (.seq (.own 1 (.bin .add (.bin .add (.bor 1) (.lst (.cons (.tup (.cons (.con (.str "all")) .nil)) .nil))) (.var 5)))
    .skip))
    (.seq (.app 1 (.var 4))
    .skip))
    .skip)))
    (.seq (.reto 1)
    .skip)))
def F_law_plain : Fn := Fn.ofX true 1 7 S_law_plain
theorem body_law_plain : Body F_law_plain 1 7 S_law_plain := body_ofX
abbrev N_law_remembers : List Str := ["step"]
abbrev P_law_remembers : List Str := ["step"]
def S_law_remembers : Sm := (.seq (.ite (.cmp .isin (.idx (.var 0) (.con (.int 0))) (.tup (.cons (.con (.str "show")) (.cons (.con (.str "hide")) .nil))))
    (.seq (.ret (.cmp .eq (.idx (.idx (.var 0) (.con (.int 1))) (.con (.int 0))) (.con (.str "above"))))
    .skip)
    .skip)
    (.seq (.ret (.cmp .isin (.idx (.var 0) (.con (.int 0))) (.tup (.cons (.con (.str "first")) (.cons (.con (.str "down")) .nil)))))
    .skip))
def F_law_remembers : Fn := Fn.ofX false 1 1 S_law_remembers
theorem body_law_remembers : Body F_law_remembers 1 1 S_law_remembers := body_ofX
abbrev N_law_load : List Str := ["script", "step"]
abbrev P_law_load : List Str := ["script"]
def S_law_load : Sm := (.seq (.ret (.blt .len (.lc [("step", 1)] (.one 1) (.call "_law_plain" F_law_plain (.cons (.var 0) .nil)) (.call "_law_remembers" F_law_remembers (.cons (.var 1) .nil)) (.var 1))))
    .skip)
def F_law_load : Fn := Fn.ofX false 1 2 S_law_load
theorem body_law_load : Body F_law_load 1 2 S_law_load := body_ofX
/-- a step's first word -/
def hd : Dt → Str
  | .tup (.str w :: _) => w
  | _ => ""
def stpR : List Dt → Bool
  | .tup (.str _ :: _) :: _ => true
  | _ => false
/-- a step whose parts can be looked at -/
def stpB : Dt → Bool
  | .tup (.str w :: rest) => if w = "show" ∨ w = "hide" then stpR rest else true
  | _ => false
theorem stpR_form {rest : List Dt} (h : stpR rest = true) : ∃ t r1 r2, rest = .tup (.str t :: r1) :: r2 := by
  unfold stpR at h
  split at h
  · exact ⟨_, _, _, rfl⟩
  · cases h
def isF (d : Dt) : Bool := decide ("show" = hd d) || decide ("hide" = hd d)
def allD : Dt := .tup [.str "all"]
def pstep (st : List Dt × List Dt) (s : Dt) : List Dt × List Dt := (st.1 ++ (if hd s = "again" then allD :: st.2 else [s]), if hd s = "all" then [] else if isF s = true then st.2 ++ [s] else st.2)
def plainOf (sts : List Dt) : List Dt := (sts.foldl pstep ([], [])).1
theorem stp_form {s : Dt} (h : stpB s = true) : ∃ w rest, s = .tup (.str w :: rest) := by
  unfold stpB at h
  split at h
  · exact ⟨_, _, rfl⟩
  · cases h
theorem atI_0 {α : Type} {x : α} {xs : List α} : atI (x :: xs) 0 = some x := by
  unfold atI ixN
  rw [if_pos (by decide), if_pos (by simp)]
  rfl
def Small (st : List Dt × List Dt) (r : Nat) : Prop := st.2.length + r ≤ 1000 ∧ st.1.length + r * (st.2.length + r + 2) ≤ 4000000
theorem small_step {st : List Dt × List Dt} {r : Nat} {s : Dt} (h : Small st (r + 1)) : Small (pstep st s) r ∧ st.1.length + (1 + st.2.length) ≤ 4000000 := by
  obtain ⟨h1, h2⟩ := h
  rw [Nat.succ_mul] at h2
  have l1 : (pstep st s).1.length ≤ st.1.length + (1 + st.2.length) := by
    unfold pstep
    simp only [List.length_append]
    split <;> simp <;> omega
  have l2 : (pstep st s).2.length ≤ st.2.length + 1 := by
    unfold pstep
    dsimp only
    split
    · simp
    · split <;> simp
  have l3 : r * ((pstep st s).2.length + r + 2) ≤ r * (st.2.length + (r + 1) + 2) := Nat.mul_le_mul_left _ (by omega)
  exact ⟨⟨by omega, by omega⟩, by omega⟩
abbrev unfBody : Sm := (.seq (.asg 1 (.bin .add (.var 1) (.ite (.cmp .eq (.idx (.var 3) (.con (.int 0))) (.con (.str "again"))) (.bin .add (.lst (.cons (.tup (.cons (.con (.str "all")) .nil)) .nil)) (.var 2)) (.lst (.cons (.var 3) .nil)))))
    (.seq (.ite (.cmp .eq (.idx (.var 3) (.con (.int 0))) (.con (.str "all")))
    (.seq (.asg 2 (.lst .nil))
    .skip)
    .skip)
    (.seq (.ite (.cmp .isin (.idx (.var 3) (.con (.int 0))) (.tup (.cons (.con (.str "show")) (.cons (.con (.str "hide")) .nil))))
    (.seq (.asg 2 (.bin .add (.var 2) (.lst (.cons (.var 3) .nil))))
    .skip)
    .skip)
    .skip)))
theorem unf_turn (x0 : Sl) (st : List Dt × List Dt) {s : Dt} {r : Nat} (hs : stpB s = true) (hr : Small st (r + 1)) : xs unfBody [x0, .sh (.lst st.1), .sh (.lst st.2), .sh s] = some (.nx [x0, .sh (.lst (pstep st s).1), .sh (.lst (pstep st s).2), .sh s]) := by
  obtain ⟨w, rest, rfl⟩ := stp_form hs
  obtain ⟨_, h3⟩ := small_step (s := .tup (.str w :: rest)) hr
  obtain ⟨h1, _⟩ := hr
  have e1 : st.1.length + 1 ≤ 16777216 := by omega
  have e2 : st.2.length + 1 ≤ 16777216 := by omega
  have e3 : st.1.length + (st.2.length + 1) ≤ 16777216 := by omega
  have e4 : 1 + st.2.length ≤ 16777216 := by omega
  have fin : ∀ (b1 b2 b3 b4 : Prop), (w = "again") = b1 → (w = "all") = b2 → (("show" : Str) = w) = b3 → (("hide" : Str) = w) = b4 → (b1 = True ∨ b1 = False) → (b2 = True ∨ b2 = False) → (b3 = True ∨ b3 = False) → (b4 = True ∨ b4 = False) →
      xs unfBody [x0, .sh (.lst st.1), .sh (.lst st.2), .sh (.tup (.str w :: rest))] = some (.nx [x0, .sh (.lst (pstep st (.tup (.str w :: rest))).1), .sh (.lst (pstep st (.tup (.str w :: rest))).2), .sh (.tup (.str w :: rest))]) := by
    intro b1 b2 b3 b4 h1 h2 h3 h4 k1 k2 k3 k4
    rcases k1 with rfl | rfl <;> rcases k2 with rfl | rfl <;> rcases k3 with rfl | rfl <;> rcases k4 with rfl | rfl <;>
      (simp [atI_0, sizeLine_eq, e1, e2, e3, e4, pstep, hd, isF, allD, h1, h2, h3, h4]) <;> first
        | exact (by decide : ¬ (("show" : Str) = "all")) ((of_eq_true h3).trans (of_eq_true h2))
        | exact (by decide : ¬ (("hide" : Str) = "all")) ((of_eq_true h4).trans (of_eq_true h2))
  exact fin _ _ _ _ rfl rfl rfl rfl ((Classical.em _).imp eq_true eq_false) ((Classical.em _).imp eq_true eq_false) ((Classical.em _).imp eq_true eq_false) ((Classical.em _).imp eq_true eq_false)
theorem unf_loop (x0 : Sl) : ∀ (rest : List Dt) (st : List Dt × List Dt) (x3 : Sl), (∀ s ∈ rest, stpB s = true) → Small st rest.length →
    ∃ x3', forX (.one 3) (xs unfBody) rest [x0, .sh (.lst st.1), .sh (.lst st.2), x3] = some (.nx [x0, .sh (.lst (rest.foldl pstep st).1), .sh (.lst (rest.foldl pstep st).2), x3'])
  | [], st, x3, _, _ => ⟨x3, rfl⟩
  | s :: rest, st, x3, hs, hr => by
    obtain ⟨x3', ih⟩ := unf_loop x0 rest (pstep st s) (.sh s) (fun y hy => hs y (List.mem_cons_of_mem _ hy)) (small_step hr).1
    refine ⟨x3', ?_⟩
    have t1 := unf_turn x0 st (hs s List.mem_cons_self) hr
    show (match xs unfBody [x0, .sh (.lst st.1), .sh (.lst st.2), .sh s] with | some (.nx ρ'') => forX (.one 3) (xs unfBody) rest ρ'' | r => r) = _
    rw [t1]
    exact ih
theorem small_0 {n : Nat} (h : n ≤ 900) : Small ([], []) n := ⟨by simp; omega, by
  have : n * (n + 2) ≤ 900 * 902 := Nat.mul_le_mul h (by omega)
  simp
  omega⟩
theorem unfolded_ex {sts : List Dt} (hs : ∀ s ∈ sts, stpB s = true) (hl : sts.length ≤ 900) : F_unfolded.ex [.tup sts] = some (.tup (plainOf sts)) := by
  obtain ⟨x3', e⟩ := unf_loop (.sh (.tup sts)) sts ([], []) .no hs (small_0 hl)
  show exF 1 4 S_unfolded [.tup sts] = _
  have e' : xs S_unfolded (ev0 4 [.tup sts]) = some (.rt (.tup (plainOf sts))) := by
    show (match forX (.one 3) (xs unfBody) sts [.sh (.tup sts), .sh (.lst []), .sh (.lst []), .no] with | some (.nx ρ') => xs _ ρ' | r => r) = _
    rw [e]
    rfl
  unfold exF
  rw [e']
  rfl

/-! the law's own way to unfold -/
abbrev plnBody : Sm := (.seq (.ite (.cmp .eq (.idx (.var 4) (.con (.int 0))) (.con (.str "all")))
    (.seq (.asg 2 (.bin .add (.var 3) (.con (.int 1))))
    .skip)
    .skip)
    (.seq (.ite (.cmp .eq (.idx (.var 4) (.con (.int 0))) (.con (.str "again")))
    (.seq (.asg 5 (.lc [("one", 6)] (.one 6) (.slc (.var 0) (.var 2) (.var 3)) (.cmp .isin (.idx (.var 6) (.con (.int 0))) (.tup (.cons (.con (.str "show")) (.cons (.con (.str "hide")) .nil)))) (.var 6)))
    (.seq (.own 1 (.bin .add (.bin .add (.bor 1) (.lst (.cons (.tup (.cons (.con (.str "all")) .nil)) .nil))) (.var 5)))
    .skip))
    (.seq (.app 1 (.var 4))
    .skip))
    .skip))
theorem cut_mid {α : Type} (done rest : List α) (b : Nat) (hb : b ≤ done.length) : cutD (done ++ rest) (some (b : Int)) (some ((done.length : Nat) : Int)) = done.drop b := by
  unfold cutD
  rw [HT.sIx_nat, HT.sIx_nat, List.length_append, Nat.min_eq_left (by omega), Nat.min_eq_left (by omega), List.drop_append_of_le_length hb]
  exact List.take_left' (by simp)
theorem flt_lc (done rest : List Dt) (b : Nat) (x1 x4 x5 x6 : Sl) (hb : b ≤ done.length) (hs : ∀ s ∈ done, stpB s = true) (hl : done.length ≤ 1000) :
    xe (.lc [("one", 6)] (.one 6) (.slc (.var 0) (.var 2) (.var 3)) (.cmp .isin (.idx (.var 6) (.con (.int 0))) (.tup (.cons (.con (.str "show")) (.cons (.con (.str "hide")) .nil)))) (.var 6))
      [.sh (.tup (done ++ rest)), x1, .sh (.int (b : Nat)), .sh (.int (done.length : Nat)), x4, x5, x6] = some (.lst ((done.drop b).filter isF)) := by
  refine xe_lc (d := .tup (done.drop b)) ?_ rfl (lcX_filter (p := isF) _ fun s hm => ?_) ?_
  · simp [Ex.no, endD]
    show some (Dt.tup (cutD (done ++ rest) (some (b : Int)) (some ((done.length : Nat) : Int)))) = _
    rw [cut_mid done rest b hb]
  · obtain ⟨w, r, rfl⟩ := stp_form (hs s (List.mem_of_mem_drop hm))
    unfold lcT
    have k1 : ((("show" : Str) = w) = True) ∨ ((("show" : Str) = w) = False) := (Classical.em _).imp eq_true eq_false
    have k2 : ((("hide" : Str) = w) = True) ∨ ((("hide" : Str) = w) = False) := (Classical.em _).imp eq_true eq_false
    rcases k1 with h1 | h1 <;> rcases k2 with h2 | h2 <;> simp [bindP, wipeE, atI_0, sizeLine_eq, isF, hd, h1, h2]
  · have h1 := List.length_filter_le isF (done.drop b)
    have h2 : (done.drop b).length ≤ done.length := by simp
    rw [sizeLine_eq]
    omega
theorem pln_turn (done rest : List Dt) (s : Dt) (b : Nat) (st : List Dt × List Dt) (x5 x6 : Sl) (hb : b ≤ done.length) (hs : ∀ s ∈ done, stpB s = true) (h1 : stpB s = true) (hr : Small st (rest.length + 1)) (hf : st.2 = (done.drop b).filter isF) (hl : done.length ≤ 1000) :
    ∃ x5' x6', xs plnBody [.sh (.tup (done ++ s :: rest)), .ow st.1, .sh (.int (b : Nat)), .sh (.int (done.length : Nat)), .sh s, x5, x6] =
      some (.nx [.sh (.tup (done ++ s :: rest)), .ow (pstep st s).1, .sh (.int ((if hd s = "all" then done.length + 1 else b : Nat) : Nat)), .sh (.int (done.length : Nat)), .sh s, x5', x6']) := by
  obtain ⟨w, r, rfl⟩ := stp_form h1
  obtain ⟨_, h3⟩ := small_step (s := .tup (.str w :: r)) hr
  have lc := fun x1 x5 => flt_lc done (.tup (.str w :: r) :: rest) b x1 (.sh (.tup (.str w :: r))) x5 x6 hb hs hl
  rw [← hf] at lc
  have e1 : st.1.length + 1 ≤ 16777216 := by omega
  have e2 : st.1.length < 16777216 := by omega
  have e3 : st.1.length + 1 + st.2.length ≤ 16777216 := by omega
  by_cases a1 : w = "again"
  · have a2 : (w = "all") = False := eq_false (by rw [a1]; decide)
    have a1' := eq_true a1
    refine ⟨.sh (.lst st.2), x6, ?_⟩
    simp [atI_0, sizeLine_eq, lc, e1, e2, e3, pstep, hd, allD, a1', a2]
  · have a1' := eq_false a1
    refine ⟨x5, x6, ?_⟩
    by_cases a2 : w = "all"
    · have a2' := eq_true a2
      simp [atI_0, sizeLine_eq, e1, e2, e3, pstep, hd, allD, a1', a2']
    · have a2' := eq_false a2
      simp [atI_0, sizeLine_eq, e1, e2, e3, pstep, hd, allD, a1', a2']
theorem pln_loop : ∀ (rest done : List Dt) (b : Nat) (st : List Dt × List Dt) (x4 x5 x6 x3 : Sl), b ≤ done.length → (∀ s ∈ done, stpB s = true) → (∀ s ∈ rest, stpB s = true) → Small st rest.length → st.2 = (done.drop b).filter isF → done.length + rest.length ≤ 1000 →
    ∃ b' y3 x4' x5' x6', forX (.many [3, 4]) (xs plnBody) (enumD done.length rest) [.sh (.tup (done ++ rest)), .ow st.1, .sh (.int (b : Nat)), x3, x4, x5, x6] = some (.nx [.sh (.tup (done ++ rest)), .ow (rest.foldl pstep st).1, b', y3, x4', x5', x6'])
  | [], done, b, st, x4, x5, x6, x3, _, _, _, _, _, _ => ⟨_, _, _, _, _, rfl⟩
  | s :: rest, done, b, st, x4, x5, x6, x3, hb, hd1, hs, hr, hf, hl => by
    obtain ⟨y5, y6, t1⟩ := pln_turn done rest s b st x5 x6 hb hd1 (hs s List.mem_cons_self) hr hf (by simp at hl; omega)
    have hf' : (pstep st s).2 = ((done ++ [s]).drop (if hd s = "all" then done.length + 1 else b)).filter isF := by
      unfold pstep
      dsimp only
      by_cases ha : hd s = "all"
      · rw [if_pos ha, if_pos ha, List.drop_of_length_le (by simp)]
        rfl
      · rw [if_neg ha, if_neg ha, List.drop_append_of_le_length hb, List.filter_append, hf]
        by_cases hi : isF s = true
        · rw [if_pos hi, List.filter_cons_of_pos hi]
          rfl
        · rw [if_neg hi, List.filter_cons_of_neg hi]
          simp
    have hb' : (if hd s = "all" then done.length + 1 else b) ≤ (done ++ [s]).length := by
      split <;> simp <;> omega
    obtain ⟨b', y3, z4, z5, z6, ih⟩ := pln_loop rest (done ++ [s]) (if hd s = "all" then done.length + 1 else b) (pstep st s) (.sh s) y5 y6 (.sh (.int (done.length : Nat))) hb' (fun y hy => by
      rcases List.mem_append.mp hy with hy | hy
      · exact hd1 y hy
      · rw [List.mem_singleton] at hy
        rw [hy]
        exact hs s List.mem_cons_self) (fun y hy => hs y (List.mem_cons_of_mem _ hy)) (small_step hr).1 hf' (by simp at hl ⊢; omega)
    refine ⟨b', y3, z4, z5, z6, ?_⟩
    rw [List.append_assoc, List.length_append] at ih
    show (match xs plnBody [.sh (.tup (done ++ s :: rest)), .ow st.1, .sh (.int (b : Nat)), .sh (.int (done.length : Nat)), .sh s, x5, x6] with | some (.nx ρ'') => forX (.many [3, 4]) (xs plnBody) (enumD (done.length + 1) rest) ρ'' | r => r) = _
    rw [t1]
    exact ih
theorem plain_ex {sts : List Dt} (hs : ∀ s ∈ sts, stpB s = true) (hl : sts.length ≤ 900) : F_law_plain.ex [.tup sts] = some (.lst (plainOf sts)) := by
  obtain ⟨b', y3, z4, z5, z6, e⟩ := pln_loop sts [] 0 ([], []) .no .no .no .no (Nat.le_refl _) (fun _ h => nomatch h) hs (small_0 hl) rfl (by simp; omega)
  show exF 1 7 S_law_plain [.tup sts] = _
  have e' : xs S_law_plain (ev0 7 [.tup sts]) = some (.rt (.lst (plainOf sts))) := by
    show (match forX (.many [3, 4]) (xs plnBody) (enumD 0 sts) [.sh (.tup sts), .ow [], .sh (.int (0 : Nat)), .no, .no, .no, .no] with | some (.nx ρ') => xs _ ρ' | r => r) = _
    have e2 : forX (.many [3, 4]) (xs plnBody) (enumD 0 sts) [.sh (.tup sts), .ow [], .sh (.int (0 : Nat)), .no, .no, .no, .no] = _ := e
    rw [e2]
    rfl
  unfold exF
  rw [e']
  rfl
/-- whether a step looks back at rows -/
def remB (s : Dt) : Bool := if isF s = true then (match s with
  | .tup [_, .tup (.str t :: _)] => decide (t = "above")
  | .tup (_ :: .tup (.str t :: _) :: _) => decide (t = "above")
  | _ => false) else decide ("first" = hd s) || decide ("down" = hd s)
theorem plain_mem : ∀ (sts : List Dt) (st : List Dt × List Dt) (P : Dt → Prop), P allD → (∀ s ∈ sts, P s) → (∀ s ∈ st.1, P s) → (∀ s ∈ st.2, P s) → ∀ s ∈ (sts.foldl pstep st).1, P s
  | [], _, _, _, _, h, _ => h
  | x :: sts, st, P, h0, h1, h2, h3 => by
    have hx := h1 x List.mem_cons_self
    refine plain_mem sts (pstep st x) P h0 (fun s hs => h1 s (List.mem_cons_of_mem _ hs)) (fun s hs => ?_) fun s hs => ?_
    · unfold pstep at hs
      dsimp only at hs
      rcases List.mem_append.mp hs with hs | hs
      · exact h2 s hs
      · split at hs
        · rcases List.mem_cons.mp hs with rfl | hs
          · exact h0
          · exact h3 s hs
        · rw [List.mem_singleton] at hs
          rw [hs]
          exact hx
    · unfold pstep at hs
      dsimp only at hs
      split at hs
      · cases hs
      · split at hs
        · rcases List.mem_append.mp hs with hs | hs
          · exact h3 s hs
          · rw [List.mem_singleton] at hs
            rw [hs]
            exact hx
        · exact h3 s hs
theorem fold_small : ∀ (sts : List Dt) (st : List Dt × List Dt), Small st sts.length → (sts.foldl pstep st).1.length ≤ 4000000
  | [], st, h => by
    have := h.2
    simp at this
    simpa using this
  | s :: sts, st, h => fold_small sts (pstep st s) (small_step h).1
theorem plain_len {sts : List Dt} (hl : sts.length ≤ 900) : (plainOf sts).length ≤ 4000000 := fold_small sts _ (small_0 hl)
def loadOf (sts : List Dt) : Nat := ((plainOf sts).filter remB).length
theorem rem_ex {s : Dt} (h : stpB s = true) : F_law_remembers.ex [s] = some (.bl (remB s)) ∧ F_has_memory.ex [s] = some (.bl (remB s)) := by
  obtain ⟨w, rest, rfl⟩ := stp_form h
  have k1 : ((("show" : Str) = w) = True) ∨ ((("show" : Str) = w) = False) := (Classical.em _).imp eq_true eq_false
  have k2 : ((("hide" : Str) = w) = True) ∨ ((("hide" : Str) = w) = False) := (Classical.em _).imp eq_true eq_false
  show exF 1 1 S_law_remembers [_] = _ ∧ exF 1 1 S_has_memory [_] = _
  by_cases hq : w = "show" ∨ w = "hide"
  · have h' : (if w = "show" ∨ w = "hide" then stpR rest else true) = true := h
    rw [if_pos hq] at h'
    · obtain ⟨t, r1, r2, rfl⟩ := stpR_form h'
      have a1 : atI (Dt.str w :: Dt.tup (Dt.str t :: r1) :: r2) 1 = some (.tup (.str t :: r1)) := by
        unfold atI ixN
        rw [if_pos (by decide), if_pos (by simp; omega)]
        rfl
      have f1 : (("first" : Str) = w) = False := eq_false fun z => by rcases hq with q | q <;> exact absurd (z.trans q) (by decide)
      have f2 : (("down" : Str) = w) = False := eq_false fun z => by rcases hq with q | q <;> exact absurd (z.trans q) (by decide)
      have rm : remB (.tup (.str w :: .tup (.str t :: r1) :: r2)) = decide (t = "above") := by
        have hi : isF (.tup (.str w :: .tup (.str t :: r1) :: r2)) = true := by
          unfold isF hd
          rcases hq with q | q <;> rw [q] <;> rfl
        unfold remB
        rw [if_pos hi]
        cases r2 <;> rfl
      rw [rm]
      rcases k1 with c1 | c1 <;> rcases k2 with c2 | c2
      · exact absurd ((of_eq_true c1).trans (of_eq_true c2).symm) (by decide)
      · simp [exF, S_law_remembers, S_has_memory, ev0, atI_0, a1, c1, c2, f1, f2, sizeLine_eq]
      · simp [exF, S_law_remembers, S_has_memory, ev0, atI_0, a1, c1, c2, f1, f2, sizeLine_eq]
      · rcases hq with q | q
        · exact absurd q.symm (of_eq_false c1)
        · exact absurd q.symm (of_eq_false c2)
  · have c1 : (("show" : Str) = w) = False := eq_false fun z => hq (.inl z.symm)
    have c2 : (("hide" : Str) = w) = False := eq_false fun z => hq (.inr z.symm)
    have rm : remB (.tup (.str w :: rest)) = (decide (("first" : Str) = w) || decide (("down" : Str) = w)) := by
      unfold remB
      rw [if_neg]
      · rfl
      · simp [isF, hd, c1, c2]
    rw [rm]
    have k3 : ((("first" : Str) = w) = True) ∨ ((("first" : Str) = w) = False) := (Classical.em _).imp eq_true eq_false
    have k4 : ((("down" : Str) = w) = True) ∨ ((("down" : Str) = w) = False) := (Classical.em _).imp eq_true eq_false
    rcases k3 with f1 | f1 <;> rcases k4 with f2 | f2 <;> simp [exF, S_law_remembers, S_has_memory, ev0, atI_0, c1, c2, f1, f2, sizeLine_eq]
theorem rem_lc {f : Str} {F : Fn} {sts : List Dt} (x0 : Sl) (hF : ∀ s, stpB s = true → F.ex [s] = some (.bl (remB s))) (hs : ∀ s ∈ sts, stpB s = true) : lcX (lcT [("step", 1)] (.one 1) (.call f F (.cons (.var 1) .nil)) (.var 1) [x0, .no]) sts = some (sts.filter remB) := by
  refine lcX_filter _ fun s hm => ?_
  unfold lcT
  have e := hF s (hs s hm)
  cases q : remB s <;> rw [q] at e <;> simp [bindP, wipeE, e]
theorem stp_plain {sts : List Dt} (hs : ∀ s ∈ sts, stpB s = true) : ∀ s ∈ plainOf sts, stpB s = true := plain_mem sts ([], []) (fun s => stpB s = true) (by decide) hs (fun _ h => nomatch h) (fun _ h => nomatch h)
theorem load_ex {sts : List Dt} (hs : ∀ s ∈ sts, stpB s = true) (hl : sts.length ≤ 900) : F_law_load.ex [.tup sts] = some (.int (loadOf sts)) := by
  have e := xe_lc (own := [("step", 1)]) (pt := .one 1) (tst := .call "_law_remembers" F_law_remembers (.cons (.var 1) .nil)) (elt := .var 1) (ρ := [.sh (.tup sts), .no]) (src := .call "_law_plain" F_law_plain (.cons (.var 0) .nil)) (d := .lst (plainOf sts)) (by simp [plain_ex hs hl]) rfl (rem_lc _ (fun s h => (rem_ex h).1) (stp_plain hs)) (by
    have h1 := plain_len hl
    have h2 := List.length_filter_le remB (plainOf sts)
    rw [sizeLine_eq]
    omega)
  show exF 1 2 S_law_load [_] = _
  simp [exF, S_law_load, ev0, e, loadOf]
theorem count_ex {sts : List Dt} (hs : ∀ s ∈ sts, stpB s = true) (hl : sts.length ≤ 900) : F_count_memories.ex [.tup sts] = some (.int (loadOf sts)) := by
  have e := xe_lc (own := [("step", 1)]) (pt := .one 1) (tst := .call "has_memory" F_has_memory (.cons (.var 1) .nil)) (elt := .var 1) (ρ := [.sh (.tup sts), .no]) (src := .call "unfolded" F_unfolded (.cons (.var 0) .nil)) (d := .tup (plainOf sts)) (by simp [unfolded_ex hs hl]) rfl (rem_lc _ (fun s h => (rem_ex h).2) (stp_plain hs)) (by
    have h1 := plain_len hl
    have h2 := List.length_filter_le remB (plainOf sts)
    rw [sizeLine_eq]
    omega)
  show exF 1 2 S_count_memories [_] = _
  simp [exF, S_count_memories, ev0, e, loadOf]
abbrev N_law_script : List Str := ["deck", "heads", "words", "most", "load", "found", "turn", "longer"]
abbrev P_law_script : List Str := ["deck", "heads", "words", "most", "load"]
def S_law_script : Sm := (.seq (.asg 5 (.tup .nil))
    (.seq (.for_ (.one 6) (.rng (.call "_law_pick" F_law_pick (.cons (.var 0) (.cons (.bin .add (.var 3) (.con (.int 1))) .nil))))
    (.seq (.asg 7 (.bin .add (.var 5) (.tup (.cons (.call "_law_step" F_law_step (.cons (.var 0) (.cons (.var 1) (.cons (.var 2) .nil)))) .nil))))
    (.seq (.ite (.and (.cmp .le (.call "_law_load" F_law_load (.cons (.var 7) .nil)) (.var 4)) (.cmp .lt (.mth .count (.var 7) (.tup (.cons (.con (.str "double")) .nil))) (.con (.int 3))))
    (.seq (.asg 5 (.var 7))
    .skip)
    .skip)
    .skip)))
    (.seq (.ret (.var 5))
    .skip)))
def doubleD : Dt := .tup [.str "double"]
def dbls (sts : List Dt) : Nat := sts.countP fun z => eqD z doubleD
theorem plain_tup {sts : List Dt} (h : ∀ s ∈ sts, okD 5 s = true) : plainD (.tup sts) = true := by
  show okD (11 + 1) (.tup sts) = true
  unfold okD
  rw [List.all_eq_true]
  exact fun x hx => okD_mono 5 11 x (by decide) (h x hx)
theorem count_dbl {sts : List Dt} (h : ∀ s ∈ sts, okD 5 s = true) : mthD .count (.tup sts) doubleD = some (.int (dbls sts : Nat)) := by
  show (if plainD doubleD && plainD (.tup sts) then some (Dt.int (sts.countP fun z => eqD z doubleD : Nat)) else none) = _
  rw [plain_tup h]
  rfl
/-- steps that may be drawn can be looked at -/
def StpOk (hs ws : List Dt) : Prop := ∀ s ∈ stepsOf hs ws, stpB s = true ∧ okD 5 s = true
def ScrOk (hs ws : List Dt) (most load : Nat) (sts : List Dt) : Prop := sts.length ≤ most ∧ (∀ s ∈ sts, s ∈ stepsOf hs ws) ∧ loadOf sts ≤ load ∧ dbls sts < 3
def F_law_script : Fn := Fn.drw false 700 (fun as => ∃ hs ws, ∃ most load : Nat, as = [.tup hs, .lst ws, .int most, .int load] ∧ HW [.tup hs, .lst ws] hs ws ∧ StpOk hs ws ∧ most ≤ 100)
  (fun as d => ∃ hs ws, ∃ most load : Nat, ∃ sts, as = [.tup hs, .lst ws, .int most, .int load] ∧ d = .tup sts ∧ ScrOk hs ws most load sts)
def ScriptI (S : Store) (k n : Nat) (hs ws : List Dt) (most load : Nat) (ds : List Dt) (j : Nat) (ρ : Ev) (S' : Store) : Prop := ∃ n' sts x6 x7, S' = Dk S k n' ∧ n - 1 - 6 * j ≤ n' ∧ ds.length ≤ most ∧ ρ = [.sh (.hdl k), .sh (.tup hs), .sh (.lst ws), .sh (.int most), .sh (.int load), .sh (.tup sts), x6, x7] ∧ ScrOk hs ws j load sts
theorem body_law_script : Body F_law_script 5 8 S_law_script := by
  refine body_dk ?_ ?_
  · rintro as ⟨hs, ws, most, load, rfl, _⟩
    rfl
  · rintro k as S R n hk hn ⟨hs, ws, most, load, rfl, hw, ok, hm⟩
    rw [S_law_script, wps_seq, wps_asg, wp_tup, wp_nil]
    refine ⟨by decide, ?_⟩
    dsimp only
    rw [wps_seq]
    refine wps_for_inv (ScriptI S k n hs ws most load) ?_ ?_ ?_
    · show wp (.rng _) R _ _ _
      unfold wp
      simp [ev0]
      refine drw_dk hk (by omega) ⟨_, rfl, by omega, by omega⟩ ?_
      rintro _ ⟨z, r, e, rfl, r0, r1⟩
      cases e
      have hc : r < 4611686018427387904 ∧ -4611686018427387904 ≤ r := by omega
      simp [hc]
      refine ⟨n - 1, [], .no, .no, rfl, by omega, by simp; omega, rfl, by simp, (fun _ h => nomatch h), Nat.zero_le _, by decide⟩
    · rintro ds j d _ _ hj ⟨n', sts, x6, x7, rfl, hn', hds, rfl, s1, s2, s3, s4⟩
      have hjr : j < most := by
        have := (List.getElem?_eq_some_iff.mp hj).1
        omega
      simp [bindP]
      refine drw_dk hk (by omega) ⟨hs, ws, hw⟩ ?_
      rintro s ⟨hs', ws', e, hs1⟩
      cases e
      have l1 : sts.length + 1 ≤ 16777216 := by omega
      have all1 : ∀ y ∈ sts ++ [s], y ∈ stepsOf hs ws := fun y hy => by
        rcases List.mem_append.mp hy with hy | hy
        · exact s2 y hy
        · rw [List.mem_singleton] at hy
          rw [hy]
          exact hs1
      have ld := load_ex (sts := sts ++ [s]) (fun y hy => (ok y (all1 y hy)).1) (by simp; omega)
      have cd : mthD .count (.tup (sts ++ [s])) (.tup [.str "double"]) = _ := count_dbl (sts := sts ++ [s]) fun y hy => (ok y (all1 y hy)).2
      simp [sizeLine_eq, l1]
      refine F_law_load.ok _ _ _ _ _ ld ?_
      simp [cd, recv]
      by_cases c1 : loadOf (sts ++ [s]) ≤ load
      · by_cases c2 : ((dbls (sts ++ [s]) : Nat) : Int) < 3
        · simp [c1, c2]
          exact ⟨n' - 6, sts ++ [s], _, _, rfl, by omega, hds, rfl, by simp; omega, all1, c1, by omega⟩
        · simp [c1, c2]
          exact ⟨n' - 6, sts, _, _, rfl, by omega, hds, rfl, by omega, s2, s3, s4⟩
      · simp [c1]
        exact ⟨n' - 6, sts, _, _, rfl, by omega, hds, rfl, by omega, s2, s3, s4⟩
    · rintro ds ρ S' ⟨n', sts, x6, x7, rfl, hn', hds, rfl, s1, s2, s3, s4⟩
      simp
      exact ⟨n', by omega, rfl, hs, ws, most, load, ⟨rfl, rfl, rfl, rfl⟩, by omega, s2, s3, s4⟩
/-! ### steps and scripts as typed data -/
theorem stpB_d (s : Stp) : stpB s.d = true := by
  cases s with
  | show_ t => cases t <;> rfl
  | hide_ t => cases t <;> rfl
  | _ => rfl
theorem pstep_d (st : List Stp × List Stp) (s : Stp) : pstep (st.1.map Stp.d, st.2.map Stp.d) s.d = ((pstepT st s).1.map Stp.d, (pstepT st s).2.map Stp.d) := by
  cases s <;> simp (decide := true) [pstep, pstepT, hd, isF, isFT, Stp.d, allD]
theorem fold_d : ∀ (sts : List Stp) (st : List Stp × List Stp), (sts.map Stp.d).foldl pstep (st.1.map Stp.d, st.2.map Stp.d) = ((sts.foldl pstepT st).1.map Stp.d, (sts.foldl pstepT st).2.map Stp.d)
  | [], st => rfl
  | s :: sts, st => by
    rw [List.map_cons, List.foldl_cons, pstep_d, List.foldl_cons]
    exact fold_d sts (pstepT st s)
theorem plain_d (sts : List Stp) : plainOf (sts.map Stp.d) = (plainT sts).map Stp.d := congrArg Prod.fst (fold_d sts ([], []))
theorem remB_d (s : Stp) : remB s.d = remT s := by
  cases s with
  | show_ t => cases t <;> rfl
  | hide_ t => cases t <;> rfl
  | _ => rfl
theorem load_d (sts : List Stp) : loadOf (sts.map Stp.d) = loadT sts := by
  unfold loadOf loadT
  rw [plain_d, List.filter_map, List.length_map]
  congr 1
  exact List.filter_congr fun s _ => remB_d s
theorem eq_dbl (s : Stp) : eqD s.d doubleD = decide (s = .double_) := by
  cases s with
  | show_ t => cases t <;> rfl
  | hide_ t => cases t <;> rfl
  | all_ => kernel_rfl
  | again_ => kernel_rfl
  | drop_ => kernel_rfl
  | double_ => kernel_rfl
  | _ => rfl
theorem dbls_d (sts : List Stp) : dbls (sts.map Stp.d) = sts.count .double_ := by
  unfold dbls
  rw [List.countP_map, List.count_eq_countP]
  refine congrFun (congrArg List.countP (funext fun s => ?_)) sts
  rw [Function.comp_apply, eq_dbl]
  exact Bool.eq_iff_iff.mpr (by simp)
theorem stpB_map (sts : List Stp) : ∀ s ∈ sts.map Stp.d, stpB s = true := fun s hs => by
  obtain ⟨t, _, rfl⟩ := List.mem_map.mp hs
  exact stpB_d t
theorem unfolded_T {sts : List Stp} (hl : sts.length ≤ 900) : F_unfolded.ex [.tup (sts.map Stp.d)] = some (.tup ((plainT sts).map Stp.d)) := by
  rw [unfolded_ex (stpB_map sts) (by rw [List.length_map]; exact hl), plain_d]
theorem law_plain_T {sts : List Stp} (hl : sts.length ≤ 900) : F_law_plain.ex [.tup (sts.map Stp.d)] = some (.lst ((plainT sts).map Stp.d)) := by
  rw [plain_ex (stpB_map sts) (by rw [List.length_map]; exact hl), plain_d]
theorem law_load_T {sts : List Stp} (hl : sts.length ≤ 900) : F_law_load.ex [.tup (sts.map Stp.d)] = some (.int (loadT sts)) := by
  rw [load_ex (stpB_map sts) (by rw [List.length_map]; exact hl), load_d]
theorem count_T {sts : List Stp} (hl : sts.length ≤ 900) : F_count_memories.ex [.tup (sts.map Stp.d)] = some (.int (loadT sts)) := by
  rw [count_ex (stpB_map sts) (by rw [List.length_map]; exact hl), load_d]
theorem remembers_T (s : Stp) : F_law_remembers.ex [s.d] = some (.bl (remT s)) ∧ F_has_memory.ex [s.d] = some (.bl (remT s)) := by
  have := rem_ex (stpB_d s)
  rwa [remB_d] at this
/-- a script of these columns -/
structure ScT (hs : List Str) (sts : List Stp) : Prop where
  st : ∀ s ∈ sts, StG hs s
  len : sts.length ≤ 10
  load : loadT sts ≤ 3
  dbl : sts.count .double_ ≤ 2
/-- what is drawn as a script is one -/
theorem scT_of {hs ws : List Str} {most load : Nat} {sts : List Dt} (hc : hs ∈ colsA) (hw : ∀ w ∈ ws, w ∈ allWs) (hm : most ≤ 10) (hl : load ≤ 3) (h : ScrOk (strL hs) (strL ws) most load sts) : ∃ ss : List Stp, sts = ss.map Stp.d ∧ ScT hs ss ∧ ss.length ≤ most ∧ loadT ss ≤ load := by
  obtain ⟨h1, h2, h3, h4⟩ := h
  obtain ⟨ss, rfl, g⟩ := typed_list sts fun s hs => stG hc hw s (h2 s hs)
  rw [List.length_map] at h1
  rw [load_d] at h3
  rw [dbls_d] at h4
  exact ⟨ss, rfl, ⟨g, by omega, by omega, by omega⟩, h1, h3⟩
theorem is_script_T {hs : List Str} {sts : List Stp} (h : ScT hs sts) : F_is_script_of.ex [colD hs, .tup (sts.map Stp.d)] = some (.bl true) := by
  have hl := h.len
  have e1 : xe (.lc [("step", 2)] (.one 2) (.var 1) (.con (.bool true)) (.call "is_step_of" F_is_step_of (.cons (.var 0) (.cons (.var 2) .nil)))) [.sh (colD hs), .sh (.tup (sts.map Stp.d)), .no] = some (.lst (sts.map fun _ => .bl true)) := by
    have := xe_lc (own := [("step", 2)]) (pt := .one 2) (src := .var 1) (tst := .con (.bool true)) (elt := .call "is_step_of" F_is_step_of (.cons (.var 0) (.cons (.var 2) .nil))) (ρ := [.sh (colD hs), .sh (.tup (sts.map Stp.d)), .no]) (d := .tup (sts.map Stp.d)) rfl rfl (lcX_map (g := fun _ => .bl true) _ fun s hs => ?_) (by rw [List.length_map, List.length_map, sizeLine_eq]; omega)
    · rw [List.map_map] at this
      exact this
    · obtain ⟨t, ht, rfl⟩ := List.mem_map.mp hs
      unfold lcT
      simp [bindP, wipeE, (h.st t ht).ok]
  have e2 := all_true sts
  have e3 : isiD ["tuple"] (.tup (sts.map Stp.d)) = some true := rfl
  have e4 : ¬ (10 : Int) < sts.length := by omega
  have e5 : mthD .count (.tup (sts.map Stp.d)) (.tup [.str "double"]) = _ := count_dbl fun s hs => by
    obtain ⟨t, _, rfl⟩ := List.mem_map.mp hs
    exact okD_step t
  rw [dbls_d] at e5
  have e6 := count_T (sts := sts) (by omega)
  have e7 : ((sts.count .double_ : Nat) : Int) ≤ 2 := by have := h.dbl; omega
  have e8 : ((loadT sts : Nat) : Int) ≤ 3 := by have := h.load; omega
  show exF 2 3 S_is_script_of [colD hs, .tup (sts.map Stp.d)] = _
  simp [exF, S_is_script_of, ev0, e1, e2, e3, e4, e5, e6, e7, e8, recv, sizeLine_eq]
theorem need_script_T {hs : List Str} {sts : List Stp} (hc : hs ∈ colsA) (h : ScT hs sts) : F_need_script.ex [colD hs, .tup (sts.map Stp.d)] = some .non := by
  have e1 := (cols_need hs hc).1
  have e2 := is_script_T h
  show exF 2 2 S_need_script [colD hs, .tup (sts.map Stp.d)] = _
  simp [exF, S_need_script, ev0, e1, e2]
/-! what is drawn -/
theorem stpOk_T {hs ws : List Str} (hc : hs ∈ colsA) (hw : ∀ w ∈ ws, w ∈ allWs) : StpOk (strL hs) (strL ws) := fun s h => by
  obtain ⟨st, rfl, _⟩ := stG hc hw s h
  exact ⟨stpB_d st, okD_step st⟩
/-- a script is drawn -/
theorem script_dk {hs ws : List Str} {most load : Nat} {k n : Nat} {S : Store} {Q : DK} {R : XR} (hk : k < S.length) (hn : 700 ≤ n) (hc : hs ∈ colsA) (hw : ∀ w ∈ ws, w ∈ allWs) (hl : 0 < ws.length) (hl2 : ws.length ≤ 4) (hm : most ≤ 10) (hld : load ≤ 3)
    (h : ∀ ss : List Stp, ScT hs ss → ss.length ≤ most → loadT ss ≤ load → Q (.tup (ss.map Stp.d)) (Dk S k (n - 700))) : F_law_script.run [.hdl k, colD hs, .lst (strL ws), .int most, .int load] (Dk S k n) Q R := by
  refine drw_dk hk hn ⟨strL hs, strL ws, most, load, rfl, hw_T hc hl hl2, stpOk_T hc hw, by omega⟩ ?_
  rintro _ ⟨hs', ws', most', load', sts, e, rfl, so⟩
  have e1 : strL hs = hs' := Dt.tup.inj (List.cons.inj e).1
  have e2 : strL ws = ws' := Dt.lst.inj (List.cons.inj (List.cons.inj e).2).1
  have e3 : ((most : Nat) : Int) = (most' : Nat) := Dt.int.inj (List.cons.inj (List.cons.inj (List.cons.inj e).2).2).1
  have e4 : ((load : Nat) : Int) = (load' : Nat) := Dt.int.inj (List.cons.inj (List.cons.inj (List.cons.inj (List.cons.inj e).2).2).2).1
  have e3' : most' = most := by omega
  have e4' : load' = load := by omega
  subst e1 e2 e3' e4'
  obtain ⟨ss, rfl, g1, g2, g3⟩ := scT_of hc hw hm hld so
  exact h ss g1 g2 g3
theorem runT_of {hs : List Str} {ss : List Stp} (hc : hs ∈ colsA) (h : ScT hs ss) : RunT hs (plainT ss) := by
  have i := plainT_inv ss
  have hl := h.len
  refine ⟨fun s hs1 => ?_, (cols_need hs hc).2.2.1, ?_, ?_⟩
  · obtain ⟨h1, h2⟩ := i.a s hs1
    refine ⟨?_, h1⟩
    rcases h2 with rfl | h2
    · trivial
    · exact (h.st s h2).col
  · have := i.cnt
    have := h.dbl
    show (plainT ss).count .double_ ≤ 10
    unfold plainT
    omega
  · have := i.l1
    have h2 : ss.length * (ss.length + 1) ≤ 10 * 11 := Nat.mul_le_mul hl (by omega)
    show (plainT ss).length ≤ 10000
    unfold plainT
    omega
theorem need_all_T {hs : List Str} {ss : List Stp} {t : List (List Str)} (hc : hs ∈ colsA) (h : ScT hs ss) (ht : TabT hs t) (hl : t.length ≤ 200) : F_need_all.ex [.tup (strL hs), .tup (ss.map Stp.d), .lst (t.map cellD)] = some .non := by
  have e1 : F_need_script.ex [.tup (strL hs), .tup (ss.map Stp.d)] = some .non := need_script_T hc h
  have e2 := need_table_T (cols_need hs hc).2.2.1 ht hl
  show exF 3 3 S_need_all [.tup (strL hs), .tup (ss.map Stp.d), .lst (t.map cellD)] = _
  simp [exF, S_need_all, ev0, e1, e2]
theorem run_T {hs : List Str} {ss : List Stp} {t : List (List Str)} (hc : hs ∈ colsA) (h : ScT hs ss) (ht : TabT hs t) (hl : t.length ≤ 200) : F_run.ex [.tup (strL hs), .tup (ss.map Stp.d), .lst (t.map cellD)] = some (.lst (((resT hs (plainT ss) t).map Prod.fst).map cellD)) := by
  have e1 := need_all_T hc h ht hl
  have e2 := unfolded_T (sts := ss) (by have := h.len; omega)
  have ro := runT_of hc h
  have e3 := result_of_T (t := t) ro ht.wide (by omega)
  have e4 := (allT_len (hs := hs) ro.dbl t (noneT (plainT ss))).1
  show exF 3 5 S_run [.tup (strL hs), .tup (ss.map Stp.d), .lst (t.map cellD)] = _
  have e5 := lc_M (own := [("cells", 3), ("seen", 4)]) (pt := .many [3, 4]) (src := .call "result_of" F_result_of (.cons (.var 0) (.cons (.call "unfolded" F_unfolded (.cons (.var 1) .nil)) (.cons (.var 2) .nil)))) (elt := .var 3) (ρ := [.sh (.tup (strL hs)), .sh (.tup (ss.map Stp.d)), .sh (.lst (t.map cellD)), .no, .no]) (D := .lst ((resT hs (plainT ss) t).map rsD)) rsD (fun r => cellD r.1) (resT hs (plainT ss) t) (by simp [e2, e3]) rfl (fun r _ => ⟨_, rfl, by simp [wipeE]⟩) (by rw [sizeLine_eq]; unfold resT; omega)
  simp [exF, S_run, ev0, e1, e5]
theorem enumD_eq {α : Type} (enc : α → Dt) : ∀ (xs : List α) (k : Nat), enumD k (xs.map enc) = ((xs.zipIdx k).map fun p => .tup [.int (p.2 : Nat), enc p.1])
  | [], k => rfl
  | x :: xs, k => by
    rw [List.map_cons, enumD, enumD_eq enc xs, List.zipIdx_cons, List.map_cons]
/-- the places of the rows that are seen -/
def seenT (rows : List RowS) : List Nat := (rows.zipIdx.filter fun p => p.1.2).map Prod.snd
theorem seen_after_T {hs : List Str} {ss : List Stp} {t : List (List Str)} (hc : hs ∈ colsA) (h : ScT hs ss) (ht : TabT hs t) (hl : t.length ≤ 200) : F_seen_after.ex [.tup (strL hs), .tup (ss.map Stp.d), .lst (t.map cellD)] = some (.lst ((seenT (resT hs (plainT ss) t)).map fun n => .int (n : Nat))) := by
  have e1 := need_all_T hc h ht hl
  have e2 := unfolded_T (sts := ss) (by have := h.len; omega)
  have ro := runT_of hc h
  have e3 := result_of_T (t := t) ro ht.wide (by omega)
  have e4 := (allT_len (hs := hs) ro.dbl t (noneT (plainT ss))).1
  show exF 3 6 S_seen_after [.tup (strL hs), .tup (ss.map Stp.d), .lst (t.map cellD)] = _
  have e5 := lc_T (own := [("place", 4), ("row", 5)]) (pt := .many [4, 5]) (src := .enu (.var 3)) (tst := .idx (.var 5) (.con (.int 1))) (elt := .var 4) (ρ := [.sh (.tup (strL hs)), .sh (.tup (ss.map Stp.d)), .sh (.lst (t.map cellD)), .sh (.lst ((resT hs (plainT ss) t).map rsD)), .no, .no]) (D := .lst (enumD 0 ((resT hs (plainT ss) t).map rsD)))
    (fun p : RowS × Nat => .tup [.int (p.2 : Nat), rsD p.1]) (fun p => .int (p.2 : Nat)) (fun p => p.1.2) (resT hs (plainT ss) t).zipIdx rfl (by rw [enumD_eq]; rfl) (fun p _ => by
      obtain ⟨⟨cs, b⟩, n⟩ := p
      unfold lcT
      cases b <;> simp [bindP, bindL, wipeE, rsD, atI_1]) (by rw [List.length_zipIdx, sizeLine_eq]; unfold resT; omega)
  simp [exF, S_seen_after, ev0, e1, e2, e3, e5, seenT]
theorem memory_behind_T {hs : List Str} {ss : List Stp} {t : List (List Str)} (hc : hs ∈ colsA) (h : ScT hs ss) (ht : TabT hs t) (hl : t.length ≤ 200) : F_memory_behind.ex [.tup (strL hs), .tup (ss.map Stp.d), .lst (t.map cellD)] = some (.tup ((allT hs (plainT ss) (noneT (plainT ss)) t).2.map wD)) := by
  have e1 := need_all_T hc h ht hl
  have e2 := unfolded_T (sts := ss) (by have := h.len; omega)
  have ro := runT_of hc h
  have e3 := all_rows_T (mem := noneT (plainT ss)) ro (by simp [noneT]) ht.wide (by omega)
  have e6 := empty_memory_T (ss := plainT ss) ro.len
  show exF 3 4 S_memory_behind [.tup (strL hs), .tup (ss.map Stp.d), .lst (t.map cellD)] = _
  simp [exF, S_memory_behind, ev0, e1, e2, e3, e6, atI_1]
abbrev N_law_named : List Str := ["script", "found", "step"]
abbrev P_law_named : List Str := ["script"]
def S_law_named : Sm := (.seq (.own 1 (.lst (.cons (.con (.str "")) .nil)))
    (.seq (.for_ (.one 2) (.var 0)
    (.seq (.ite (.cmp .eq (.idx (.var 2) (.con (.int 0))) (.con (.str "put")))
    (.seq (.app 1 (.idx (.var 2) (.con (.int 2))))
    .skip)
    .skip)
    (.seq (.ite (.and (.cmp .isin (.idx (.var 2) (.con (.int 0))) (.tup (.cons (.con (.str "show")) (.cons (.con (.str "hide")) .nil)))) (.cmp .eq (.idx (.idx (.var 2) (.con (.int 1))) (.con (.int 0))) (.con (.str "is"))))
    (.seq (.app 1 (.idx (.idx (.var 2) (.con (.int 1))) (.con (.int 2))))
    .skip)
    .skip)
    .skip)))
    (.seq (.ret (.srs (.bor 1)))
    .skip)))
theorem nm_len (s : Stp) : s.nm.length ≤ 1 := by
  cases s with
  | show_ t => cases t <;> simp [Stp.nm, Tst.nm]
  | hide_ t => cases t <;> simp [Stp.nm, Tst.nm]
  | _ => simp [Stp.nm]
theorem flat_len {α β : Type} {g : α → List β} (h : ∀ x, (g x).length ≤ 1) : ∀ xs : List α, (xs.flatMap g).length ≤ xs.length
  | [] => Nat.le_refl _
  | x :: xs => by
    have h1 := flat_len h xs
    have h2 := h x
    simp only [List.flatMap_cons, List.length_append, List.length_cons]
    omega
def F_law_named : Fn := Fn.ofX false 1 3 S_law_named
theorem body_law_named : Body F_law_named 1 3 S_law_named := body_ofX
theorem law_named_ex {sts : List Stp} (hl : sts.length ≤ 1000) : F_law_named.ex [.tup (sts.map Stp.d)] = some (.lst ((srtS ("" :: sts.flatMap Stp.nm)).map .str)) := by
  show exF 1 3 S_law_named [.tup (sts.map Stp.d)] = _
  refine exF_rt rfl ?_
  unfold S_law_named
  refine x_own [.str ""] (by simp [ev0, sizeLine_eq]) ?_
  refine x_for Stp.d (fun (a : List Str) ss ρ => a.length + ss.length ≤ 5000 ∧ ∃ x2, ρ = [.sh (.tup (sts.map Stp.d)), .ow (a.map .str), x2]) (fun a s => a ++ s.nm) (fun _ => True) sts [""] (D := .tup (sts.map Stp.d)) rfl rfl (fun _ _ => trivial) ⟨by simp; omega, .no, rfl⟩ ?_ ?_
  · rintro a s ss _ _ ⟨hn, x2, rfl⟩
    have l1 := nm_len s
    rw [List.length_cons] at hn
    have e1 : a.length < 16777216 := by omega
    refine ⟨_, _, rfl, (by
      cases s with
      | show_ t => cases t <;> simp (decide := true) [Stp.d, Tst.d, Stp.nm, Tst.nm, atI_z, atI_1, atI_2, sizeLine_eq, e1]
      | hide_ t => cases t <;> simp (decide := true) [Stp.d, Tst.d, Stp.nm, Tst.nm, atI_z, atI_1, atI_2, sizeLine_eq, e1]
      | _ => simp (decide := true) [Stp.d, Tst.d, Stp.nm, Tst.nm, atI_z, atI_1, atI_2, sizeLine_eq, e1]), ?_, .sh s.d, rfl⟩
    rw [List.length_append]
    omega
  · rintro ρ' ⟨hn, x2, rfl⟩
    rw [foldl_flat] at hn ⊢
    refine x_ret ?_
    have := srs_map (xs := "" :: sts.flatMap Stp.nm) (by have := flat_len nm_len sts; rw [List.length_cons]; omega)
    simpa using this
abbrev N_law_exchange : List Str := ["deck", "named", "some", "left", "word", "found"]
abbrev P_law_exchange : List Str := ["deck", "named"]
def S_law_exchange : Sm := (.seq (.asg 2 (.lst (.cons (.con (.str "q")) (.cons (.con (.str "r")) (.cons (.con (.str "zzzzzzzz")) (.cons (.con (.str "qq")) (.cons (.con (.str "zzzzzzzy")) (.cons (.con (.str "aaaaaaab")) (.cons (.con (.str "aaaaaaaa")) (.cons (.con (.str "k")) .nil))))))))))
    (.seq (.own 3 (.lc [("word", 4)] (.one 4) (.var 2) (.cmp .notin (.var 4) (.var 1)) (.var 4)))
    (.seq (.asg 5 .dnew)
    (.seq (.for_ (.one 4) (.blt .lst (.bor 3))
    (.seq (.dpop 5 4 3 (.call "_law_pick" F_law_pick (.cons (.var 0) (.cons (.blt .len (.bor 3)) .nil))))
    .skip))
    (.seq (.ret (.var 5))
    .skip)))))
/-- the words that may be exchanged -/
def exWs : List Str := ["q", "r", "zzzzzzzz", "qq", "zzzzzzzy", "aaaaaaab", "aaaaaaaa", "k"]
def leftT (named : List Str) : List Str := exWs.filter fun w => !named.contains w
def F_law_exchange : Fn where
  own := false
  ex := fun _ => none
  run := fun ds S Q R => ∃ k n named, ds = [.hdl k, .lst (strL named)] ∧ S[k]? = some (.deck n) ∧ 8 ≤ n ∧ named.length ≤ 1000 ∧ ∀ kvs n', n - 8 ≤ n' → kvs.map (·.1) = leftT named → (kvs.map (·.2)).Perm (leftT named) → Q (.hdl S.length) (S.set k (.deck n') ++ [.dct kvs])
  mono := fun ds S Q Q' R R' h hR q => by
    obtain ⟨k, n, named, e1, e2, e3, e4, q⟩ := q
    exact ⟨k, n, named, e1, e2, e3, e4, fun kvs n' h1 h2 h3 => h _ _ (q kvs n' h1 h2 h3)⟩
  ok := fun ds d S Q R e => nomatch e
theorem notin_strs (w : Str) (ws : List Str) : cmpD .notin (.str w) (.lst (strL ws)) = some (!ws.contains w) := by
  show (if plainD (.str w) && plainD (.lst (strL ws)) then some (!inD (.str w) (strL ws)) else none) = _
  rw [show plainD (.lst (strL ws)) = true from okD_strs 11 ws]
  have e : inD (.str w) (strL ws) = ws.contains w := by
    unfold inD
    rw [List.any_map, ← List.any_beq']
    congr 1
  rw [e]
  rfl
theorem ex_nodup : exWs.Nodup := by decide +kernel
theorem wps_dpop {i kx l : Nat} {e : Ex} {R : XR} {ρ : Ev} {S : Store} {D : Ed} : wps (.dpop i kx l e) R ρ S D = match ρ[l]? with
    | some (.ow ds) => wp e R ρ S fun z S1 => match z with
      | .int z => 0 ≤ z ∧ z < ds.length ∧ ds.length < 1000 ∧ opt ds[z.toNat]? fun d => match ρ[i]?, ρ[kx]?, d with
        | some (.sh v), some (.sh (.str s)), .str t => opt (dctAt S1 v) fun p => p.2.length < 1000 ∧ D.nx (ρ.set l (.ow (ds.eraseIdx z.toNat))) (S1.set p.1 (.dct (putS p.2 s t)))
        | _, _, _ => False
      | _ => False
    | _ => False := rfl
theorem erase_map {α β : Type} (f : α → β) : ∀ (xs : List α) (n : Nat), (xs.map f).eraseIdx n = (xs.eraseIdx n).map f
  | [], _ => rfl
  | _ :: _, 0 => rfl
  | x :: xs, n + 1 => by
    show f x :: (xs.map f).eraseIdx n = f x :: (xs.eraseIdx n).map f
    rw [erase_map f xs n]
theorem erase_perm {α : Type} : ∀ (xs : List α) (n : Nat) (t : α), xs[n]? = some t → (t :: xs.eraseIdx n).Perm xs
  | [], _, _, h => by simp at h
  | x :: xs, 0, t, h => by
    have h : x = t := by simpa using h
    subst h
    exact List.Perm.refl _
  | x :: xs, n + 1, t, h => by
    have ih := erase_perm xs n t (by simpa using h)
    exact (List.Perm.swap x t _).trans (ih.cons x)
theorem put_new {kvs : List (Str × Str)} {s t : Str} (h : s ∉ kvs.map (·.1)) : putS kvs s t = kvs ++ [(s, t)] := by
  unfold putS
  rw [if_neg]
  intro z
  rw [List.any_eq_true] at z
  obtain ⟨p, hp, e⟩ := z
  exact h (List.mem_map.mpr ⟨p, hp, by simpa using e⟩)
theorem set_end {S : Store} {k : Nat} {a b r : Rs} (hk : k < S.length) : (S.set k a ++ [r]).set k b = S.set k b ++ [r] := by
  rw [List.set_append_left _ _ (by rw [List.length_set]; exact hk), List.set_set]
theorem at_end {S : Store} {k : Nat} {a r : Rs} : (S.set k a ++ [r])[S.length]? = some r := by
  rw [List.getElem?_append_right (by rw [List.length_set]; exact Nat.le_refl _), List.length_set, Nat.sub_self]
  rfl
def ExI (S : Store) (k n : Nat) (named : List Str) (ds : List Dt) (j : Nat) (ρ : Ev) (S' : Store) : Prop := ds = strL (leftT named) ∧ j ≤ (leftT named).length ∧ ∃ kvs rest n' x4, S' = S.set k (.deck n') ++ [.dct kvs] ∧ n - j ≤ n' ∧ kvs.map (·.1) = (leftT named).take j ∧ (kvs.map (·.2) ++ rest).Perm (leftT named) ∧
  ρ = [.sh (.hdl k), .sh (.lst (strL named)), .sh (.lst (strL exWs)), .ow (strL rest), x4, .sh (.hdl S.length)]
theorem body_law_exchange : Body F_law_exchange 2 6 S_law_exchange := by
  rintro ds S Q R ⟨k, n, named, rfl, hk, hn, hl, q⟩
  refine ⟨rfl, ?_⟩
  have hkl : k < S.length := (List.getElem?_eq_some_iff.mp hk).1
  have l8 : (leftT named).length ≤ 8 := List.length_filter_le _ exWs
  have nd : (leftT named).Nodup := ex_nodup.filter _
  show wps S_law_exchange R [.sh (.hdl k), .sh (.lst (strL named)), .no, .no, .no, .no] S _
  unfold S_law_exchange
  refine w_asg (d := .lst (strL exWs)) (by simp [sizeLine_eq]; rfl) ?_
  show wps (.seq (.own 3 _) _) R [.sh (.hdl k), .sh (.lst (strL named)), .sh (.lst (strL exWs)), .no, .no, .no] S _
  refine w_own (ds := strL (leftT named)) ?_ ?_
  · exact lc_T (own := [("word", 4)]) (pt := .one 4) (src := .var 2) (tst := .cmp .notin (.var 4) (.var 1)) (elt := .var 4) (ρ := [.sh (.hdl k), .sh (.lst (strL named)), .sh (.lst (strL exWs)), .no, .no, .no]) (D := .lst (strL exWs)) Dt.str Dt.str (fun w => !named.contains w) exWs rfl rfl (fun w _ => by
      have e := notin_strs w named
      unfold lcT
      simp [bindP, wipeE, e]
      by_cases hm : w ∈ named
      · rw [decide_eq_true hm, if_pos hm]
        rfl
      · rw [decide_eq_false hm, if_neg hm]
        rfl) (by decide)
  show wps (.seq (.asg 5 .dnew) _) R [.sh (.hdl k), .sh (.lst (strL named)), .sh (.lst (strL exWs)), .ow (strL (leftT named)), .no, .no] S _
  rw [wps_seq, wps_asg, wp_dnew]
  show wps (.seq (.for_ _ _ _) _) R [.sh (.hdl k), .sh (.lst (strL named)), .sh (.lst (strL exWs)), .ow (strL (leftT named)), .no, .sh (.hdl S.length)] _ _
  rw [wps_seq]
  refine wps_for_inv (ExI S k n named) ?_ ?_ ?_
  · refine xe_ok _ _ _ _ _ (.lst (strL (leftT named))) rfl ?_
    refine ⟨rfl, Nat.zero_le _, [], leftT named, n, .no, ?_, Nat.sub_le _ _, rfl, List.Perm.refl _, rfl⟩
    rw [set_same hk]
  · rintro ds j d _ S' hd ⟨rfl, hj, kvs, rest, n', x4, rfl, h1, h2, h3, rfl⟩
    rw [List.getElem?_map] at hd
    obtain ⟨w, hw, rfl⟩ := Option.map_eq_some_iff.mp hd
    have hj2 : j < (leftT named).length := (List.getElem?_eq_some_iff.mp hw).1
    have lk : kvs.length = j := by
      have := congrArg List.length h2
      rw [List.length_map, List.length_take] at this
      omega
    have lr : rest.length + j = (leftT named).length := by
      have := h3.length_eq
      rw [List.length_append, List.length_map] at this
      omega
    show wps (.seq (.dpop 5 4 3 _) .skip) R [.sh (.hdl k), .sh (.lst (strL named)), .sh (.lst (strL exWs)), .ow (strL rest), .sh (.str w), .sh (.hdl S.length)] (S.set k (.deck n') ++ [.dct kvs]) _
    rw [wps_seq, wps_dpop]
    show wp (.call _ _ _) R [.sh (.hdl k), .sh (.lst (strL named)), .sh (.lst (strL exWs)), .ow (strL rest), .sh (.str w), .sh (.hdl S.length)] _ _
    rw [wp_call]
    refine xe_ok _ _ _ _ _ (.tup [.hdl k, .int (rest.length : Nat)]) ?_ ?_
    · simp [Option.bind]
    show F_law_pick.run [.hdl k, .int (rest.length : Nat)] _ _ R
    have hk1 : (S.set k (.deck n') ++ [Rs.dct kvs])[k]? = some (.deck n') := by
      rw [List.getElem?_append_left (by rw [List.length_set]; exact hkl)]
      exact List.getElem?_set_self hkl
    refine drw_run hk1 (by omega) ⟨_, rfl, by omega, by omega⟩ ?_
    rintro _ ⟨z', r, e, rfl, r0, r1⟩
    cases e
    rw [set_end hkl]
    have hrn : r.toNat < rest.length := by omega
    have ht : rest[r.toNat]? = some rest[r.toNat] := List.getElem?_eq_getElem hrn
    refine ⟨r0, by rw [List.length_map]; exact r1, by rw [List.length_map]; omega, ?_⟩
    have ht2 : (strL rest)[r.toNat]? = some (.str rest[r.toNat]) := by
      show (rest.map Dt.str)[r.toNat]? = _
      rw [List.getElem?_map, ht]
      rfl
    rw [ht2, opt_some]
    show opt (dctAt (S.set k (.deck (n' - 1)) ++ [.dct kvs]) (.hdl S.length)) _
    have ha : dctAt (S.set k (.deck (n' - 1)) ++ [.dct kvs]) (.hdl S.length) = some (S.length, kvs) := by
      unfold dctAt
      dsimp only
      rw [at_end]
    rw [ha, opt_some]
    refine ⟨by show kvs.length < 1000; omega, ?_⟩
    have hnew : w ∉ kvs.map (·.1) := by
      rw [h2]
      intro z
      obtain ⟨i, hi, ei⟩ := List.mem_iff_getElem.mp z
      rw [List.length_take] at hi
      rw [List.getElem_take] at ei
      obtain ⟨_, ew⟩ := List.getElem?_eq_some_iff.mp hw
      have := nd_inj nd (by omega) hj2 (ei.trans ew.symm)
      omega
    have es : (S.set k (.deck (n' - 1)) ++ [Rs.dct kvs]).set S.length (.dct (putS kvs w rest[r.toNat])) = S.set k (.deck (n' - 1)) ++ [.dct (kvs ++ [(w, rest[r.toNat])])] := by
      rw [put_new hnew, List.set_append_right _ _ (by rw [List.length_set]; exact Nat.le_refl _), List.length_set, Nat.sub_self]
      rfl
    show ExI S k n named (strL (leftT named)) (j + 1) [.sh (.hdl k), .sh (.lst (strL named)), .sh (.lst (strL exWs)), .ow ((strL rest).eraseIdx r.toNat), .sh (.str w), .sh (.hdl S.length)] ((S.set k (.deck (n' - 1)) ++ [Rs.dct kvs]).set S.length (.dct (putS kvs w rest[r.toNat])))
    rw [es, show (strL rest).eraseIdx r.toNat = strL (rest.eraseIdx r.toNat) from erase_map Dt.str rest _]
    refine ⟨rfl, hj2, kvs ++ [(w, rest[r.toNat])], rest.eraseIdx r.toNat, n' - 1, _, rfl, by omega, ?_, ?_, rfl⟩
    · rw [List.map_append, h2, List.take_add_one, hw]
      rfl
    · rw [List.map_append, List.append_assoc]
      exact ((erase_perm rest _ _ ht).append_left _).trans h3
  · rintro ds _ S' ⟨rfl, hj, kvs, rest, n', x4, rfl, h1, h2, h3, rfl⟩
    have e : (strL (leftT named)).length = (leftT named).length := List.length_map ..
    rw [e] at h1 h2
    rw [List.take_length] at h2
    have lk : kvs.length = (leftT named).length := by
      have := congrArg List.length h2
      rwa [List.length_map] at this
    have lr : rest = [] := by
      have := h3.length_eq
      rw [List.length_append, List.length_map] at this
      exact List.length_eq_zero_iff.mp (by omega)
    subst lr
    rw [List.append_nil] at h3
    show wps (.seq (.ret (.var 5)) .skip) R [.sh (.hdl k), .sh (.lst (strL named)), .sh (.lst (strL exWs)), .ow (strL []), x4, .sh (.hdl S.length)] _ _
    rw [wps_seq, wps_ret, wp_var]
    exact le_self (q kvs n' (by omega) h2 h3)
/-! ### words renamed -/
/-- f renames words: none twice, the blank one stays -/
structure Rn (f : Str → Str) : Prop where
  inj : ∀ a b, f a = f b → a = b
  nil : f "" = ""
abbrev rnR (f : Str → Str) (r : RowS) : RowS := (r.1.map f, r.2)
def FixS (f : Str → Str) (s : Stp) : Prop := ∀ w ∈ s.nm, f w = w
section
variable {hs : List Str} {f : Str → Str}
theorem cell_rn (h : Rn f) (cs : List Str) (c : Str) : cell hs (cs.map f) c = f (cell hs cs c) := by
  unfold cell
  rw [List.getD_eq_getElem?_getD, List.getD_eq_getElem?_getD, List.getElem?_map]
  cases cs[hs.idxOf c]? with
  | none => exact h.nil.symm
  | some w => rfl
theorem putc_rn (cs : List Str) (c w : Str) : putc hs (cs.map f) c (f w) = (putc hs cs c w).map f := by
  unfold putc
  rw [List.map_set]
theorem eq_rn (h : Rn f) (a b : Str) : decide (f a = f b) = decide (a = b) := by
  by_cases q : a = b
  · rw [q]
    simp
  · rw [decide_eq_false q, decide_eq_false fun z => q (h.inj _ _ z)]
theorem meets_rn (h : Rn f) (t : Tst) (hf : ∀ w ∈ t.nm, f w = w) (cs : List Str) (k : Option Str) : meetsT hs t (cs.map f) (k.map f) = meetsT hs t cs k := by
  cases t with
  | is c w =>
    have e := hf w (by simp [Tst.nm])
    show decide (cell hs (cs.map f) c = w) = decide (cell hs cs c = w)
    rw [cell_rn h]
    exact (congrArg (fun z => decide (f (cell hs cs c) = z)) e.symm).trans (eq_rn h _ _)
  | same c o =>
    show decide (cell hs (cs.map f) c = cell hs (cs.map f) o) = decide (cell hs cs c = cell hs cs o)
    rw [cell_rn h, cell_rn h]
    exact eq_rn h _ _
  | above c =>
    show decide (k.map f = some (cell hs (cs.map f) c)) = decide (k = some (cell hs cs c))
    rw [cell_rn h]
    cases k with
    | none => rfl
    | some x =>
      have := eq_rn h x (cell hs cs c)
      simpa using this
theorem getD_rn (k : Option Str) (w : Str) : (k.map f).getD (f w) = f (k.getD w) := by cases k <;> rfl
theorem here_rn (h : Rn f) {s : Stp} (hf : FixS f s) (cs : List Str) (k : Option Str) : hereT hs s (cs.map f) (k.map f) = f (hereT hs s cs k) := by
  cases s with
  | put c w => exact (hf w (by simp [Stp.nm])).symm
  | take c o => exact cell_rn h cs o
  | first c =>
    show (k.map f).getD (cell hs (cs.map f) c) = f (k.getD (cell hs cs c))
    rw [cell_rn h, getD_rn]
  | down c =>
    show (if cell hs (cs.map f) c = "" then (k.map f).getD (cell hs (cs.map f) c) else cell hs (cs.map f) c) = f (if cell hs cs c = "" then k.getD (cell hs cs c) else cell hs cs c)
    rw [cell_rn h, getD_rn]
    by_cases q : cell hs cs c = ""
    · rw [if_pos q, if_pos (by rw [q, h.nil])]
    · rw [if_neg q, if_neg fun z => q (h.inj _ _ (z.trans h.nil.symm))]
  | _ => exact h.nil.symm
theorem rowT_rn (h : Rn f) {s : Stp} (hf : FixS f s) (k : Option Str) (r : RowS) : rowT hs s (k.map f) (rnR f r) = ((rowT hs s k r).1.map (rnR f), (rowT hs s k r).2.map f) := by
  obtain ⟨cs, b⟩ := r
  unfold rowT
  by_cases h1 : s = .all_
  · rw [if_pos h1, if_pos h1]
    rfl
  · rw [if_neg h1, if_neg h1]
    cases b with
    | false => rfl
    | true =>
      rw [if_neg (by simp), if_neg (by simp)]
      cases s with
      | show_ t =>
        have e := meets_rn (hs := hs) h t hf cs k
        show ([(cs.map f, meetsT hs t (cs.map f) (k.map f))], some (cell hs (cs.map f) t.col)) = _
        rw [e, cell_rn h]
        rfl
      | hide_ t =>
        have e := meets_rn (hs := hs) h t hf cs k
        show ([(cs.map f, !meetsT hs t (cs.map f) (k.map f))], some (cell hs (cs.map f) t.col)) = _
        rw [e, cell_rn h]
        rfl
      | put c w =>
        have e := hf w (by simp [Stp.nm])
        show ([(putc hs (cs.map f) c w, true)], some w) = ([((putc hs cs c w).map f, true)], some (f w))
        rw [← putc_rn, e]
      | take c o =>
        show ([(putc hs (cs.map f) c (cell hs (cs.map f) o), true)], some (cell hs (cs.map f) o)) = ([((putc hs cs c (cell hs cs o)).map f, true)], some (f (cell hs cs o)))
        rw [← putc_rn, cell_rn h]
      | first c =>
        have e := here_rn (hs := hs) h hf cs k
        show ([(putc hs (cs.map f) c (hereT hs (.first c) (cs.map f) (k.map f)), true)], some (hereT hs (.first c) (cs.map f) (k.map f))) = ([((putc hs cs c (hereT hs (.first c) cs k)).map f, true)], some (f (hereT hs (.first c) cs k)))
        rw [← putc_rn, e]
      | down c =>
        have e := here_rn (hs := hs) h hf cs k
        show ([(putc hs (cs.map f) c (hereT hs (.down c) (cs.map f) (k.map f)), true)], some (hereT hs (.down c) (cs.map f) (k.map f))) = ([((putc hs cs c (hereT hs (.down c) cs k)).map f, true)], some (f (hereT hs (.down c) cs k)))
        rw [← putc_rn, e]
      | _ => rfl
theorem scan_rn (h : Rn f) {s : Stp} (hf : FixS f s) : ∀ (rows : List RowS) (k : Option Str), scanT (rowT hs s) (rows.map (rnR f)) (k.map f) = ((scanT (rowT hs s) rows k).1.map (rnR f), (scanT (rowT hs s) rows k).2.map f)
  | [], k => rfl
  | r :: rows, k => by
    rw [List.map_cons]
    unfold scanT
    rw [rowT_rn h hf]
    dsimp only
    rw [scan_rn h hf rows, List.map_append]
theorem rows_rn (h : Rn f) : ∀ (ss : List Stp) (mem : List (Option Str)) (rows : List RowS), (∀ s ∈ ss, FixS f s) → rowsT hs ss (mem.map (Option.map f)) (rows.map (rnR f)) = ((rowsT hs ss mem rows).1.map (rnR f), (rowsT hs ss mem rows).2.map (Option.map f))
  | [], mem, rows, _ => rfl
  | s :: ss, mem, rows, hf => by
    have f1 := hf s List.mem_cons_self
    have f2 : ∀ x ∈ ss, FixS f x := fun x hx => hf x (List.mem_cons_of_mem _ hx)
    unfold rowsT
    by_cases q : remT s = true
    · rw [if_pos q, if_pos q]
      have e1 : (mem.map (Option.map f)).headD none = (mem.headD none).map f := by cases mem <;> rfl
      have e2 : (mem.map (Option.map f)).tail = mem.tail.map (Option.map f) := by cases mem <;> rfl
      unfold stpsT
      rw [e1, e2, scan_rn h f1]
      dsimp only
      rw [rows_rn h ss mem.tail _ f2]
      rfl
    · rw [if_neg q, if_neg q]
      have e := scan_rn (hs := hs) h f1 rows none
      unfold stpsT
      rw [Option.map_none] at e
      rw [e]
      exact rows_rn h ss mem _ f2
theorem all_rn (h : Rn f) {ss : List Stp} (hf : ∀ s ∈ ss, FixS f s) : ∀ (t : List (List Str)) (mem : List (Option Str)), allT hs ss (mem.map (Option.map f)) (t.map (List.map f)) = ((allT hs ss mem t).1.map (List.map (rnR f)), (allT hs ss mem t).2.map (Option.map f))
  | [], mem => rfl
  | cs :: t, mem => by
    have e := rows_rn (hs := hs) h ss mem [(cs, true)] hf
    rw [List.map_cons]
    unfold allT
    unfold rowOnT
    have e' : rowsT hs ss (mem.map (Option.map f)) [(cs.map f, true)] = _ := e
    rw [e']
    dsimp only
    rw [all_rn h hf t]
    rfl
theorem none_rn (ss : List Stp) : (noneT ss).map (Option.map f) = noneT ss := by
  unfold noneT
  rw [List.map_map]
  rfl
theorem mem_rn (h : Rn f) {ss : List Stp} (hf : ∀ s ∈ ss, FixS f s) (t : List (List Str)) : (allT hs ss (noneT ss) (t.map (List.map f))).2 = (allT hs ss (noneT ss) t).2.map (Option.map f) := by
  have e := all_rn (hs := hs) h hf t (noneT ss)
  rw [none_rn] at e
  rw [e]
theorem res_rn (h : Rn f) {ss : List Stp} (hf : ∀ s ∈ ss, FixS f s) (t : List (List Str)) : resT hs ss (t.map (List.map f)) = (resT hs ss t).map (rnR f) := by
  have e := all_rn (hs := hs) h hf t (noneT ss)
  rw [none_rn] at e
  unfold resT
  rw [e, List.map_flatten]
theorem seen_rn (rows : List RowS) : seenT (rows.map (rnR f)) = seenT rows := by
  unfold seenT
  rw [List.zipIdx_map, List.filter_map, List.map_map]
  rfl
end
/-- what a dict of words makes of a word -/
def dictF (kvs : List (Str × Str)) (w : Str) : Str := (valS kvs w).getD w
theorem val_none {kvs : List (Str × Str)} {w : Str} (h : w ∉ kvs.map (·.1)) : valS kvs w = none := by
  unfold valS
  rw [Option.map_eq_none_iff, List.find?_eq_none]
  intro p hp z
  exact h (List.mem_map.mpr ⟨p, hp, by simpa using z⟩)
theorem val_some {kvs : List (Str × Str)} {w : Str} (h : w ∈ kvs.map (·.1)) : ∃ t, valS kvs w = some t ∧ (w, t) ∈ kvs := by
  unfold valS
  cases q : kvs.find? fun kv => decide (kv.1 = w) with
  | none =>
    obtain ⟨p, hp, e⟩ := List.mem_map.mp h
    have := List.find?_eq_none.mp q p hp
    exact absurd (by simpa using e) this
  | some p =>
    have e : p.1 = w := by simpa using List.find?_some q
    refine ⟨p.2, rfl, ?_⟩
    rw [← e]
    exact List.mem_of_find?_eq_some q
/-- a dict that puts its keys into another order is a renaming -/
theorem dictF_rn {kvs : List (Str × Str)} (hn : (kvs.map (·.1)).Nodup) (hp : (kvs.map (·.2)).Perm (kvs.map (·.1))) (h0 : ("" : Str) ∉ kvs.map (·.1)) : Rn (dictF kvs) := by
  have n2 : (kvs.map (·.2)).Nodup := hp.nodup_iff.mpr hn
  refine ⟨fun a b e => ?_, by unfold dictF; rw [val_none h0]; rfl⟩
  have inK : ∀ w t, (w, t) ∈ kvs → t ∈ kvs.map (·.1) := fun w t h => hp.mem_iff.mp (List.mem_map.mpr ⟨_, h, rfl⟩)
  have one : ∀ (a b t : Str), (a, t) ∈ kvs → (b, t) ∈ kvs → a = b := fun a b t h1 h2 => by
    obtain ⟨i, hi, e1⟩ := List.mem_iff_getElem.mp h1
    obtain ⟨j, hj, e2⟩ := List.mem_iff_getElem.mp h2
    have hij : i = j := by
      refine nd_inj n2 (by simpa using hi) (by simpa using hj) ?_
      rw [List.getElem_map, List.getElem_map, e1, e2]
    subst hij
    rw [e1] at e2
    exact (Prod.mk.inj e2).1
  unfold dictF at e
  by_cases ha : a ∈ kvs.map (·.1)
  · obtain ⟨t, h1, h2⟩ := val_some ha
    rw [h1] at e
    by_cases hb : b ∈ kvs.map (·.1)
    · obtain ⟨u, h3, h4⟩ := val_some hb
      rw [h3] at e
      have e : t = u := e
      subst e
      exact one a b t h2 h4
    · rw [val_none hb] at e
      have e : t = b := e
      subst e
      exact absurd (inK a t h2) hb
  · rw [val_none ha] at e
    by_cases hb : b ∈ kvs.map (·.1)
    · obtain ⟨u, h3, h4⟩ := val_some hb
      rw [h3] at e
      have e : a = u := e
      subst e
      exact absurd (inK b a h4) ha
    · rw [val_none hb] at e
      exact e
abbrev N_law_put_for : List Str := ["table", "rows", "word", "cells"]
abbrev P_law_put_for : List Str := ["table", "rows"]
def S_law_put_for : Sm := (.seq (.ret (.lc [("cells", 3)] (.one 3) (.var 1) (.con (.bool true)) (.blt .tup (.lc [("word", 2)] (.one 2) (.var 3) (.con (.bool true)) (.ite (.din (.var 2) (.var 0)) (.dget (.var 0) (.var 2)) (.var 2))))))
    .skip)
abbrev optL (r : List (Option Str)) : Dt := .tup (r.map wD)
def F_law_put_for : Fn where
  own := false
  ex := fun _ => none
  run := fun ds S Q R => ∃ (k : Nat) (kvs : List (Str × Str)) (rows : List (List (Option Str))), ds = [.hdl k, .lst (rows.map optL)] ∧ S[k]? = some (.dct kvs) ∧ rows.length ≤ 1000000 ∧ (∀ r ∈ rows, r.length ≤ 1000000) ∧ Q (.lst (rows.map fun r => optL (r.map (Option.map (dictF kvs))))) S
  mono := fun ds S Q Q' R R' h hR q => by
    obtain ⟨k, kvs, rows, e1, e2, e3, e4, q⟩ := q
    exact ⟨k, kvs, rows, e1, e2, e3, e4, h _ _ q⟩
  ok := fun ds d S Q R e => nomatch e
/-- a comprehension that leaves the store as it is -/
theorem wp_lcS {α : Type} {own : List (Str × Nat)} {pt : Pt} {src elt : Ex} {R : XR} {ρ : Ev} {S : Store} {Q : DK} (enc g : α → Dt) (xs : List α) (hs : wp src R ρ S fun d S1 => S1 = S ∧ items d = some (xs.map enc)) (h : ∀ x ∈ xs, opt (bindP pt (enc x) (wipeE ρ (own.map (·.2)))) fun ρ' => wp elt (fun _ _ => False) ρ' S fun d S1 => d = g x ∧ S1 = S) (hl : xs.length ≤ 16777216) (q : Q (.lst (xs.map g)) S) : wp (.lc own pt src (.con (.bool true)) elt) R ρ S Q := by
  refine wp_lc_inv (fun ds j acc S' => S' = S ∧ ds = xs.map enc ∧ acc = (xs.take j).map g) ?_ ?_ ?_
  · refine wp_mono _ _ _ _ _ _ _ (fun _ _ z => z) (fun d S1 e => ?_) hs
    rw [e.2]
    exact ⟨e.1, rfl, rfl⟩
  · intro ds j x acc S' hx ⟨e1, e2, e3⟩
    rw [e2, List.getElem?_map] at hx
    obtain ⟨a, ha, hxa⟩ := Option.map_eq_some_iff.mp hx
    have hj := (List.getElem?_eq_some_iff.mp ha).1
    rw [← hxa, e1, e2, e3]
    refine opt_mono (fun ρ' q => wp_mono _ _ _ _ _ _ _ (fun _ _ z => z) (fun d S1 e => ?_) q) (h a (List.mem_of_getElem? ha))
    refine ⟨by rw [List.length_map, List.length_take, sizeLine_eq]; omega, e.2, rfl, ?_⟩
    rw [e.1, List.take_add_one, ha, List.map_append]
    rfl
  · intro ds acc S' ⟨e1, e2, e3⟩
    rw [e3, e1, e2, List.length_map, List.take_length]
    exact q
theorem body_law_put_for : Body F_law_put_for 2 4 S_law_put_for := by
  rintro ds S Q R ⟨k, kvs, rows, rfl, hk, hl, hw, q⟩
  refine ⟨rfl, ?_⟩
  have hd : dctAt S (.hdl k) = some (k, kvs) := by
    unfold dctAt
    dsimp only
    rw [hk]
  show wps S_law_put_for R [.sh (.hdl k), .sh (.lst (rows.map optL)), .no, .no] S _
  unfold S_law_put_for
  rw [wps_seq, wps_ret]
  refine wp_lcS optL (fun r => optL (r.map (Option.map (dictF kvs)))) rows ?_ (fun r hr => ?_) (by omega) (le_self q)
  · rw [wp_var]
    exact ⟨rfl, rfl⟩
  · have hr2 := hw r hr
    show wp (.blt .tup _) (fun _ _ => False) [.sh (.hdl k), .sh (.lst (rows.map optL)), .no, .sh (optL r)] S _
    rw [wp_blt]
    refine wp_lcS wD (fun o => wD (o.map (dictF kvs))) r ?_ (fun o ho => ?_) (by omega) ?_
    · rw [wp_var]
      exact ⟨rfl, rfl⟩
    · show wp (.ite _ _ _) (fun _ _ => False) [.sh (.hdl k), .sh (.lst (rows.map optL)), .sh (wD o), .sh (optL r)] S _
      cases o with
      | none => simp [hd, dinD, wD]
      | some w =>
        cases e : valS kvs w with
        | none => simp [hd, dinD, wD, e, dictF]
        | some t => simp [hd, dinD, dgetD, wD, e, dictF]
    · refine ⟨?_, rfl⟩
      show Dt.tup _ = Dt.tup _
      rw [List.map_map]
      rfl
abbrev N_law : List Str := ["script", "cell", "deck", "heads", "words", "steps", "named", "names", "some", "rows", "name", "k", "other", "told"]
abbrev P_law : List Str := ["script"]
def S_law : Sm := (.seq (.for_ (.one 1) (.slc (.bin .add (.lst (.cons (.con (.int 0)) .nil)) (.var 0)) .nil (.con (.int 10)))
    (.seq (.asg 2 (.call "_law_deck" F_law_deck (.cons (.var 1) (.cons (.con (.int 6)) .nil))))
    (.seq (.unp [3, 4] (.tup (.cons (.call "_law_columns" F_law_columns (.cons (.var 2) .nil)) (.cons (.call "_law_words" F_law_words (.cons (.var 2) .nil)) .nil))))
    (.seq (.asg 5 (.call "_law_script" F_law_script (.cons (.var 2) (.cons (.var 3) (.cons (.var 4) (.cons (.con (.int 8)) (.cons (.con (.int 3)) .nil)))))))
    (.seq (.asg 6 (.call "_law_named" F_law_named (.cons (.var 5) .nil)))
    (.seq (.asg 7 (.call "_law_exchange" F_law_exchange (.cons (.var 2) (.cons (.var 6) .nil))))
    (.seq (.asg 8 (.bin .add (.var 6) (.bin .mul (.dkeys (.var 7)) (.con (.int 2)))))
    (.seq (.asg 9 (.lc [("k", 11)] (.one 11) (.rng (.call "_law_pick" F_law_pick (.cons (.var 2) (.cons (.con (.int 20)) .nil)))) (.con (.bool true)) (.blt .tup (.lc [("name", 10)] (.one 10) (.var 3) (.con (.bool true)) (.call "_law_one" F_law_one (.cons (.var 2) (.cons (.var 8) .nil)))))))
    (.seq (.asg 12 (.call "_law_put_for" F_law_put_for (.cons (.var 7) (.cons (.var 9) .nil))))
    (.seq (.ite (.cmp .ne (.call "run" F_run (.cons (.var 3) (.cons (.var 5) (.cons (.var 12) .nil)))) (.call "_law_put_for" F_law_put_for (.cons (.var 7) (.cons (.call "run" F_run (.cons (.var 3) (.cons (.var 5) (.cons (.var 9) .nil)))) .nil))))
    (.seq (.ret (.con (.bool false)))
    .skip)
    .skip)
    (.seq (.ite (.cmp .ne (.call "seen_after" F_seen_after (.cons (.var 3) (.cons (.var 5) (.cons (.var 12) .nil)))) (.call "seen_after" F_seen_after (.cons (.var 3) (.cons (.var 5) (.cons (.var 9) .nil)))))
    (.seq (.ret (.con (.bool false)))
    .skip)
    .skip)
    (.seq (.asg 13 (.lst (.cons (.call "memory_behind" F_memory_behind (.cons (.var 3) (.cons (.var 5) (.cons (.var 12) .nil)))) .nil)))
    (.seq (.ite (.cmp .ne (.var 13) (.call "_law_put_for" F_law_put_for (.cons (.var 7) (.cons (.lst (.cons (.call "memory_behind" F_memory_behind (.cons (.var 3) (.cons (.var 5) (.cons (.var 9) .nil)))) .nil)) .nil))))
    (.seq (.ret (.con (.bool false)))
    .skip)
    .skip)
    .skip)))))))))))))
    (.seq (.ret (.con (.bool true)))
    .skip))
abbrev F_law : Fn := lawF
/-! ### widths -/
theorem rowsT_wide {hs : List Str} : ∀ (ss : List Stp) (mem : List (Option Str)) (rows : List RowS), WideT hs rows → WideT hs (rowsT hs ss mem rows).1
  | [], _, _, h => h
  | s :: ss, mem, rows, h => by
    unfold rowsT
    by_cases q : remT s = true
    · rw [if_pos q]
      exact rowsT_wide ss _ _ (stpsT_wide h)
    · rw [if_neg q]
      exact rowsT_wide ss _ _ (stpsT_wide h)
theorem allT_wide {hs : List Str} {ss : List Stp} : ∀ (t : List (List Str)) (mem : List (Option Str)), (∀ cs ∈ t, cs.length = hs.length) → ∀ g ∈ (allT hs ss mem t).1, WideT hs g
  | [], _, _ => fun g hg => nomatch hg
  | cs :: t, mem, h => fun g hg => by
    rcases List.mem_cons.mp (show g ∈ (rowOnT hs ss mem cs).1 :: (allT hs ss (rowOnT hs ss mem cs).2 t).1 from hg) with hg | hg
    · rw [hg]
      refine rowsT_wide ss mem _ fun r hr => ?_
      rw [List.mem_singleton] at hr
      rw [hr]
      exact h cs List.mem_cons_self
    · exact allT_wide t _ (fun x hx => h x (List.mem_cons_of_mem _ hx)) g hg
theorem resT_wide {hs : List Str} {ss : List Stp} {t : List (List Str)} (h : ∀ cs ∈ t, cs.length = hs.length) : ∀ r ∈ resT hs ss t, r.1.length = hs.length := fun r hr => by
  obtain ⟨g, hg, hrg⟩ := List.mem_flatten.mp hr
  exact allT_wide t _ h g hg r hrg
theorem allT_mlen {hs : List Str} {ss : List Stp} : ∀ (t : List (List Str)) (mem : List (Option Str)), mem.length = (ss.filter remT).length → (allT hs ss mem t).2.length = (ss.filter remT).length
  | [], mem, h => h
  | cs :: t, mem, h => allT_mlen t _ (rowsT_mem ss mem _)
/-! ### the words -/
def okWs : List Str := allWs ++ exWs
theorem okWs_word : ∀ w ∈ okWs, isWordD (.str w) = true := by decide +kernel
abbrev namesT (ss : List Stp) : List Str := srtS ("" :: ss.flatMap Stp.nm)
theorem names_len (ss : List Stp) : (namesT ss).length ≤ ss.length + 1 := by
  have h1 : (namesT ss).length ≤ (("" : Str) :: ss.flatMap Stp.nm).length := by
    unfold namesT srtS
    rw [(List.mergeSort_perm _ _).length_eq]
    exact erase_len _ _ (Nat.le_refl _)
  have h2 := flat_len nm_len ss
  rw [List.length_cons] at h1
  omega
theorem names_ok {hs : List Str} {ss : List Stp} (h : ScT hs ss) : ∀ w ∈ namesT ss, w ∈ okWs := fun w hw => by
  rw [srt_mem] at hw
  rcases List.mem_cons.mp hw with rfl | hw
  · decide +kernel
  · obtain ⟨s, hs1, hw⟩ := List.mem_flatMap.mp hw
    exact List.mem_append_left _ ((h.st s hs1).nm w hw)
theorem left_sub {named : List Str} : ∀ w ∈ leftT named, w ∈ okWs ∧ w ∉ named := fun w hw => by
  obtain ⟨h1, h2⟩ := List.mem_filter.mp hw
  exact ⟨List.mem_append_right _ h1, by simpa using h2⟩
structure DicT (ss : List Stp) (kvs : List (Str × Str)) : Prop where
  ks : kvs.map (·.1) = leftT (namesT ss)
  vs : (kvs.map (·.2)).Perm (leftT (namesT ss))
theorem DicT.rn {ss : List Stp} {kvs : List (Str × Str)} (h : DicT ss kvs) : Rn (dictF kvs) := by
  refine dictF_rn (by rw [h.ks]; exact ex_nodup.filter _) (by rw [h.ks]; exact h.vs) fun z => ?_
  rw [h.ks] at z
  refine (left_sub _ z).2 ?_
  rw [srt_mem]
  exact List.mem_cons_self
theorem DicT.fix {ss : List Stp} {kvs : List (Str × Str)} (h : DicT ss kvs) : ∀ s ∈ plainT ss, FixS (dictF kvs) s := fun s hs1 w hw => by
  have hk : w ∉ kvs.map (·.1) := fun z => by
    rw [h.ks] at z
    refine (left_sub _ z).2 ?_
    rw [srt_mem]
    obtain ⟨_, h2⟩ := (plainT_inv ss).a s hs1
    rcases h2 with h2 | h2
    · subst h2
      cases hw
    · exact List.mem_cons_of_mem _ (List.mem_flatMap.mpr ⟨s, h2, hw⟩)
  unfold dictF
  rw [val_none hk]
  rfl
theorem DicT.word {ss : List Stp} {kvs : List (Str × Str)} (h : DicT ss kvs) {w : Str} (hw : w ∈ okWs) : dictF kvs w ∈ okWs := by
  unfold dictF
  cases e : valS kvs w with
  | none => exact hw
  | some t =>
    obtain ⟨p, hp, _, e2⟩ := valS_mem e
    have : t ∈ leftT (namesT ss) := h.vs.mem_iff.mp (List.mem_map.mpr ⟨p, hp, e2⟩)
    exact (left_sub t this).1
/-- a table of these words -/
structure Tb6 (hs : List Str) (t : List (List Str)) : Prop where
  wide : ∀ cs ∈ t, cs.length = hs.length
  word : ∀ cs ∈ t, ∀ w ∈ cs, w ∈ okWs
theorem Tb6.tab {hs : List Str} {t : List (List Str)} (h : Tb6 hs t) : TabT hs t := ⟨h.wide, fun cs hc w hw => okWs_word w (h.word cs hc w hw)⟩
theorem Tb6.map {hs : List Str} {t : List (List Str)} {ss : List Stp} {kvs : List (Str × Str)} (h : Tb6 hs t) (d : DicT ss kvs) : Tb6 hs (t.map (List.map (dictF kvs))) := by
  refine ⟨fun cs hc => ?_, fun cs hc w hw => ?_⟩
  · obtain ⟨x, hx, rfl⟩ := List.mem_map.mp hc
    rw [List.length_map]
    exact h.wide x hx
  · obtain ⟨x, hx, rfl⟩ := List.mem_map.mp hc
    obtain ⟨y, hy, rfl⟩ := List.mem_map.mp hw
    exact d.word (h.word x hx y hy)
/-! ### tables as rows of words or None -/
theorem tab_opt (t : List (List Str)) : t.map cellD = (t.map (List.map some)).map optL := by
  rw [List.map_map]
  refine List.map_congr_left fun cs _ => ?_
  show Dt.tup (cs.map Dt.str) = Dt.tup ((cs.map some).map wD)
  rw [List.map_map]
  rfl
theorem tab_put (f : Str → Str) (t : List (List Str)) : ((t.map (List.map some)).map fun r => optL (r.map (Option.map f))) = (t.map (List.map f)).map cellD := by
  rw [List.map_map, List.map_map]
  refine List.map_congr_left fun cs _ => ?_
  show Dt.tup (((cs.map some).map (Option.map f)).map wD) = Dt.tup ((cs.map f).map Dt.str)
  rw [List.map_map, List.map_map, List.map_map]
  rfl
theorem lst_ne {xs ys : List Dt} (h1 : xs.all (okD 11) = true) (e : xs = ys) : cmpD .ne (.lst xs) (.lst ys) = some false := by
  subst e
  exact (cmp_refl (d := .lst xs) h1).2
theorem all_ints (ns : List Nat) : (ns.map fun n => Dt.int (n : Nat)).all (okD 11) = true := by
  rw [List.all_eq_true]
  intro d hd
  obtain ⟨n, _, rfl⟩ := List.mem_map.mp hd
  rfl
theorem opt_okD (r : List (Option Str)) : okD 11 (optL r) = true := by
  show (r.map wD).all (okD 10) = true
  rw [List.all_eq_true]
  intro d hd
  obtain ⟨o, _, rfl⟩ := List.mem_map.mp hd
  cases o <;> rfl
/-! ### rows drawn -/
def Row6 (S : Store) (k n : Nat) (hs sm : List Str) (ds : List Dt) (j : Nat) (acc : List Dt) (S' : Store) : Prop := ds = strL hs ∧ ∃ cs : List Str, acc = strL cs ∧ cs.length = j ∧ (∀ w ∈ cs, w ∈ sm) ∧ ∃ n', S' = Dk S k n' ∧ n ≤ n' + j
def Rws6 (S : Store) (k n : Nat) (hs sm : List Str) (ds : List Dt) (j : Nat) (acc : List Dt) (S' : Store) : Prop := ds.length ≤ 20 ∧ ∃ t : List (List Str), acc = t.map cellD ∧ t.length = j ∧ (∀ cs ∈ t, cs.length = hs.length ∧ ∀ w ∈ cs, w ∈ sm) ∧ ∃ n', S' = Dk S k n' ∧ n ≤ n' + 1 + 3 * j
theorem rows6 {R : XR} {S : Store} {Q : DK} {k n : Nat} {hs sm : List Str} (x0 x1 x4 x5 x6 x7 x9 x10 x11 x12 x13 : Sl) (hc : hs ∈ colsA) (hk : k < S.length) (hn : 100 ≤ n) (h0 : 0 < sm.length) (h1 : sm.length < 1000)
    (q : ∀ (t : List (List Str)) (n' : Nat), n ≤ n' + 100 → t.length ≤ 20 → (∀ cs ∈ t, cs.length = hs.length ∧ ∀ w ∈ cs, w ∈ sm) → Q (.lst (t.map cellD)) (Dk S k n')) :
    wp (.lc [("k", 11)] (.one 11) (.rng (.call "_law_pick" F_law_pick (.cons (.var 2) (.cons (.con (.int 20)) .nil)))) (.con (.bool true)) (.blt .tup (.lc [("name", 10)] (.one 10) (.var 3) (.con (.bool true)) (.call "_law_one" F_law_one (.cons (.var 2) (.cons (.var 8) .nil)))))) R [x0, x1, .sh (.hdl k), .sh (colD hs), x4, x5, x6, x7, .sh (.lst (strL sm)), x9, x10, x11, x12, x13] (Dk S k n) Q := by
  refine wp_lc_inv (Rws6 S k n hs sm) ?_ ?_ ?_
  · show wp (.rng _) R _ _ _
    unfold wp
    rw [wp_call]
    refine xe_ok _ _ _ _ _ (.tup [.hdl k, .int 20]) rfl ?_
    show F_law_pick.run [.hdl k, .int 20] (Dk S k n) _ R
    refine drw_dk hk (by omega) ⟨20, rfl, by decide, by decide⟩ ?_
    rintro _ ⟨z', r, e, rfl, r0, r1⟩
    cases e
    have hc2 : r < 2 ^ 62 ∧ -(2 ^ 62) ≤ r := by omega
    dsimp only
    rw [if_pos hc2]
    exact ⟨by simp; omega, [], rfl, rfl, (fun _ h => nomatch h), n - 1, rfl, by omega⟩
  · rintro ds j x acc S' hx ⟨hd, t, rfl, hj, ht, n1, rfl, hn1⟩
    have hj2 : j < ds.length := (List.getElem?_eq_some_iff.mp hx).1
    have h3 : hs.length ≤ 3 := (cols_need hs hc).2.2.1
    show wp (.blt .tup _) (fun _ _ => False) [x0, x1, .sh (.hdl k), .sh (colD hs), x4, x5, x6, x7, .sh (.lst (strL sm)), x9, x10, .sh x, x12, x13] (Dk S k n1) _
    rw [wp_blt]
    refine wp_lc_inv (Row6 S k n1 hs sm) ?_ ?_ ?_
    · refine xe_ok _ _ _ _ _ (colD hs) rfl ?_
      exact ⟨rfl, [], rfl, rfl, (fun _ h => nomatch h), n1, rfl, by omega⟩
    · rintro ds2 j2 y acc2 S2 hy ⟨rfl, cs, rfl, hj3, hm, n2, rfl, hn2⟩
      have hj4 : j2 < hs.length := by
        have := (List.getElem?_eq_some_iff.mp hy).1
        simpa using this
      show wp (.call "_law_one" F_law_one (.cons (.var 2) (.cons (.var 8) .nil))) (fun _ _ => False) [x0, x1, .sh (.hdl k), .sh (colD hs), x4, x5, x6, x7, .sh (.lst (strL sm)), x9, .sh y, .sh x, x12, x13] (Dk S k n2) _
      rw [wp_call]
      refine xe_ok _ _ _ _ _ (.tup [.hdl k, .lst (strL sm)]) rfl ?_
      show F_law_one.run [.hdl k, .lst (strL sm)] (Dk S k n2) _ _
      refine drw_dk hk (by omega) ⟨_, .inl rfl, by simpa using h0, by simpa using h1⟩ ?_
      rintro d ⟨xs, h | h, hd⟩
      · cases h
        obtain ⟨w, hw2, rfl⟩ := List.mem_map.mp hd
        refine ⟨by rw [List.length_map, sizeLine_eq]; omega, rfl, cs ++ [w], by simp, by simp [hj3], fun v hv => ?_, n2 - 1, rfl, by omega⟩
        rcases List.mem_append.mp hv with hv | hv
        · exact hm v hv
        · rw [List.mem_singleton] at hv
          rw [hv]
          exact hw2
      · cases h
    · rintro ds2 acc2 S2 ⟨rfl, cs, rfl, hj3, hm, n2, rfl, hn2⟩
      have hj5 : cs.length = hs.length := by simpa using hj3
      have hl : (strL hs).length = hs.length := List.length_map ..
      rw [hl] at hn2
      show (t.map cellD).length < sizeLine ∧ Rws6 S k n hs sm ds (j + 1) (t.map cellD ++ [cellD cs]) (Dk S k n2)
      refine ⟨by rw [List.length_map, sizeLine_eq]; omega, hd, t ++ [cs], by simp, by simp [hj], fun v hv => ?_, n2, rfl, by omega⟩
      rcases List.mem_append.mp hv with hv | hv
      · exact ht v hv
      · rw [List.mem_singleton] at hv
        rw [hv]
        exact ⟨hj5, hm⟩
  · rintro ds acc S' ⟨hd, t, rfl, hj, ht, n1, rfl, hn1⟩
    exact q t n1 (by omega) (by omega) ht
theorem mul_two (xs : List Dt) (h : xs.length ≤ 1000) : binD .mul (.lst xs) (.int 2) = some (.lst (xs ++ xs)) := by
  show (if -(2 ^ 63) ≤ (2 : Int) ∧ (2 : Int) < 2 ^ 63 ∧ xs.length * (2 : Int).toNat ≤ sizeLine then some (Dt.lst (List.replicate (2 : Int).toNat xs).flatten) else none) = _
  rw [if_pos ⟨by decide, by decide, by rw [sizeLine_eq]; show xs.length * 2 ≤ _; omega⟩]
  show some (Dt.lst (xs ++ (xs ++ []))) = _
  rw [List.append_nil]
def LawI (ns : List Int) (ds : List Dt) (j : Nat) (ρ : Ev) (S : Store) : Prop := (∀ d ∈ ds, ∃ z : Int, d = .int z) ∧ ∃ x1 x2 x3 x4 x5 x6 x7 x8 x9 x10 x11 x12 x13, ρ = [.sh (.lst (ns.map .int)), x1, x2, x3, x4, x5, x6, x7, x8, x9, x10, x11, x12, x13]
theorem body_law : Body F_law 1 14 S_law := by
  rintro ds S Q R ⟨ns, rfl, hl, q⟩
  refine ⟨rfl, ?_⟩
  rw [S_law, wps_seq]
  refine wps_for_inv (LawI ns) ?_ ?_ ?_
  · have e1 : ns.length + 1 ≤ 16777216 := by omega
    have e2 : 1 + ns.length ≤ 16777216 := by omega
    have e3 : xe (.slc (.bin .add (.lst (.cons (.con (.int 0)) .nil)) (.var 0)) .nil (.con (.int 10))) (ev0 14 [.lst (ns.map .int)]) = some (.lst (cutD (Dt.int 0 :: ns.map Dt.int) none (some 10))) := by
      simp [ev0, sizeLine_eq, e1, e2, Ex.no, endD]
      rfl
    refine xe_ok _ _ _ _ _ _ e3 ⟨fun d hd => slice_ints d hd, ?_⟩
    exact ⟨_, _, _, _, _, _, _, _, _, _, _, _, _, rfl⟩
  · rintro ds j d _ S' hd ⟨hi, x1, x2, x3, x4, x5, x6, x7, x8, x9, x10, x11, x12, x13, rfl⟩
    obtain ⟨z, rfl⟩ := hi d (List.mem_of_getElem? hd)
    show wps (.seq _ _) R [.sh (.lst (ns.map .int)), .sh (.int z), x2, x3, x4, x5, x6, x7, x8, x9, x10, x11, x12, x13] S' _
    rw [wps_seq, wps_asg]
    show deckH.run [.int z, .int 6] S' _ R
    refine ⟨z, 6, rfl, by decide, by decide, ?_⟩
    have hk : S'.length < (S' ++ [Rs.deck many]).length := by simp
    rw [show S' ++ [Rs.deck many] = Dk (S' ++ [Rs.deck many]) S'.length many from dk_new.symm]
    generalize S' ++ [Rs.deck many] = S1 at hk ⊢
    generalize S'.length = k at hk ⊢
    show wps (.seq (.unp _ _) _) R [.sh (.lst (ns.map .int)), .sh (.int z), .sh (.hdl k), x3, x4, x5, x6, x7, x8, x9, x10, x11, x12, x13] (Dk S1 k many) _
    rw [wps_seq, wps_unp, wp_tup, wp_cons]
    show F_law_columns.run [.hdl k] (Dk S1 k many) _ R
    refine columns_dk hk (by decide) fun hs hc => ?_
    rw [wp_cons]
    show F_law_words.run [.hdl k] (Dk S1 k (many - 1)) _ R
    refine words_dk hk (by decide) fun ws hw hw1 hw2 _ => ?_
    refine ⟨by rw [sizeLine_eq]; show 2 ≤ 16777216; decide, ?_⟩
    show wps (.seq (.asg 5 _) _) R [.sh (.lst (ns.map .int)), .sh (.int z), .sh (.hdl k), .sh (colD hs), .sh (.lst (strL ws)), x5, x6, x7, x8, x9, x10, x11, x12, x13] (Dk S1 k (many - 1 - 1)) _
    rw [wps_seq, wps_asg]
    show F_law_script.run [.hdl k, colD hs, .lst (strL ws), .int (8 : Nat), .int (3 : Nat)] (Dk S1 k (many - 1 - 1)) _ R
    refine script_dk hk (by decide) hc hw hw1 hw2 (by decide) (by decide) fun ss sc hsl _ => ?_
    generalize hn1 : many - 1 - 1 - 700 = n1
    have hn2 : 1000000 ≤ n1 := by rw [← hn1]; decide
    clear hn1
    show wps (.seq (.asg 6 _) _) R [.sh (.lst (ns.map .int)), .sh (.int z), .sh (.hdl k), .sh (colD hs), .sh (.lst (strL ws)), .sh (.tup (ss.map Stp.d)), x6, x7, x8, x9, x10, x11, x12, x13] (Dk S1 k n1) _
    have en := law_named_ex (sts := ss) (by omega)
    refine w_asg (d := .lst (strL (namesT ss))) (by simp [en]) ?_
    show wps (.seq (.asg 7 _) _) R [.sh (.lst (ns.map .int)), .sh (.int z), .sh (.hdl k), .sh (colD hs), .sh (.lst (strL ws)), .sh (.tup (ss.map Stp.d)), .sh (.lst (strL (namesT ss))), x7, x8, x9, x10, x11, x12, x13] (Dk S1 k n1) _
    have nl := names_len ss
    have nok := names_ok sc
    rw [wps_seq, wps_asg, wp_call]
    refine xe_ok _ _ _ _ _ (.tup [.hdl k, .lst (strL (namesT ss))]) rfl ?_
    refine ⟨k, n1, namesT ss, rfl, List.getElem?_set_self hk, by omega, by omega, fun kvs n2 h1 h2 h3 => ?_⟩
    have dt : DicT ss kvs := ⟨h2, h3⟩
    have kl : kvs.length ≤ 8 := by
      have e : kvs.length = (leftT (namesT ss)).length := by
        have := congrArg List.length h2
        rwa [List.length_map] at this
      have : (leftT (namesT ss)).length ≤ 8 := List.length_filter_le _ exWs
      omega
    have hkl : (Dk S1 k n1).length = S1.length := List.length_set
    rw [hkl, show (Dk S1 k n1).set k (.deck n2) = Dk S1 k n2 from dk_dk]
    have g1 : (Dk S1 k n2 ++ [Rs.dct kvs])[k]? = some (.deck n2) := by
      rw [List.getElem?_append_left (by rw [List.length_set]; exact hk)]
      exact List.getElem?_set_self hk
    have g2 : (Dk S1 k n2 ++ [Rs.dct kvs])[S1.length]? = some (.dct kvs) := by
      rw [List.getElem?_append_right (by rw [List.length_set]; exact Nat.le_refl _), List.length_set, Nat.sub_self]
      rfl
    have hne : k ≠ S1.length := by omega
    generalize Dk S1 k n2 ++ [Rs.dct kvs] = S2 at g1 g2 ⊢
    generalize S1.length = kd at g2 hne ⊢
    show wps (.seq (.asg 8 _) _) R [.sh (.lst (ns.map .int)), .sh (.int z), .sh (.hdl k), .sh (colD hs), .sh (.lst (strL ws)), .sh (.tup (ss.map Stp.d)), .sh (.lst (strL (namesT ss))), .sh (.hdl kd), x8, x9, x10, x11, x12, x13] S2 _
    have da : ∀ S : Store, S[kd]? = some (.dct kvs) → dctAt S (.hdl kd) = some (kd, kvs) := fun S h => by
      unfold dctAt
      dsimp only
      rw [h]
    obtain ⟨sm, esm, sm0, sm1, smok⟩ : ∃ sm : List Str, strL (namesT ss) ++ (kvs.map (fun q => Dt.str q.1) ++ kvs.map fun q => Dt.str q.1) = strL sm ∧ 0 < sm.length ∧ sm.length < 1000 ∧ ∀ w ∈ sm, w ∈ okWs := by
      refine ⟨namesT ss ++ (kvs.map (·.1) ++ kvs.map (·.1)), ?_, ?_, ?_, fun w hw => ?_⟩
      · show _ = List.map Dt.str _
        rw [List.map_append, List.map_append, List.map_map]
        rfl
      · have : ("" : Str) ∈ namesT ss := by rw [srt_mem]; exact List.mem_cons_self
        have := List.length_pos_of_mem this
        rw [List.length_append]
        omega
      · rw [List.length_append, List.length_append, List.length_map]
        omega
      · rcases List.mem_append.mp hw with hw | hw
        · exact nok w hw
        · rw [h2] at hw
          rcases List.mem_append.mp hw with hw | hw
          · exact (left_sub w hw).1
          · exact (left_sub w hw).1
    rw [wps_seq, wps_asg, wp_bin, wp_var]
    show wp (.bin _ _ _) R [.sh (.lst (ns.map .int)), .sh (.int z), .sh (.hdl k), .sh (colD hs), .sh (.lst (strL ws)), .sh (.tup (ss.map Stp.d)), .sh (.lst (strL (namesT ss))), .sh (.hdl kd), x8, x9, x10, x11, x12, x13] S2 _
    rw [wp_bin, wp_dkeys, wp_var]
    show opt (dctAt S2 (.hdl kd)) _
    rw [da S2 g2, opt_some, wp_con]
    show opt (binD .mul (.lst (kvs.map fun q => .str q.1)) (.int 2)) _
    rw [mul_two _ (by rw [List.length_map]; omega), opt_some]
    show opt (if (strL (namesT ss)).length + (kvs.map (fun q => Dt.str q.1) ++ kvs.map fun q => Dt.str q.1).length ≤ sizeLine then some (Dt.lst (strL (namesT ss) ++ (kvs.map (fun q => Dt.str q.1) ++ kvs.map fun q => Dt.str q.1))) else none) _
    rw [if_pos (by rw [List.length_append, List.length_map, List.length_map, sizeLine_eq]; omega), opt_some, esm]
    show wps (.seq (.asg 9 _) _) R [.sh (.lst (ns.map .int)), .sh (.int z), .sh (.hdl k), .sh (colD hs), .sh (.lst (strL ws)), .sh (.tup (ss.map Stp.d)), .sh (.lst (strL (namesT ss))), .sh (.hdl kd), .sh (.lst (strL sm)), x9, x10, x11, x12, x13] S2 _
    rw [wps_seq, wps_asg, ← dk_self g1]
    refine rows6 _ _ _ _ _ _ _ _ _ _ _ hc (List.getElem?_eq_some_iff.mp g1).1 (by omega) sm0 sm1 fun t n3 hn3 tl tw => ?_
    have tb : Tb6 hs t := ⟨fun cs h => (tw cs h).1, fun cs h w hw => smok w ((tw cs h).2 w hw)⟩
    have tb2 := tb.map dt
    have f2 : (Dk S2 k n3)[kd]? = some (.dct kvs) := (List.getElem?_set_ne hne).trans g2
    generalize Dk S2 k n3 = S3 at f2 ⊢
    have rn := dt.rn
    have fx := dt.fix
    have ro := runT_of hc sc
    have tl2 : (t.map (List.map (dictF kvs))).length ≤ 20 := by rw [List.length_map]; exact tl
    have h3l : hs.length ≤ 3 := ro.h3
    have r1 := run_T hc sc tb.tab (by omega)
    have r2 := run_T hc sc tb2.tab (by omega)
    have s1 := seen_after_T hc sc tb.tab (by omega)
    have s2 := seen_after_T hc sc tb2.tab (by omega)
    have m1 := memory_behind_T hc sc tb.tab (by omega)
    have m2 := memory_behind_T hc sc tb2.tab (by omega)
    rw [res_rn rn fx] at r2 s2
    rw [seen_rn] at s2
    rw [mem_rn rn fx] at m2
    have lres : (resT hs (plainT ss) t).length ≤ 100000 := by
      have := (allT_len (hs := hs) ro.dbl t (noneT (plainT ss))).1
      unfold resT
      omega
    have wres := resT_wide (ss := plainT ss) tb.wide
    have lmem : (allT hs (plainT ss) (noneT (plainT ss)) t).2.length ≤ 100000 := by
      rw [allT_mlen t _ (by unfold noneT; rw [List.length_map])]
      have := List.length_filter_le remT (plainT ss)
      have := ro.len
      omega
    generalize allT hs (plainT ss) (noneT (plainT ss)) t = mm at m1 m2 lmem
    have em : (((resT hs (plainT ss) t).map (rnR (dictF kvs))).map Prod.fst).map cellD = ((((resT hs (plainT ss) t).map Prod.fst)).map (List.map (dictF kvs))).map cellD := by
      rw [List.map_map, List.map_map, List.map_map, List.map_map]
      rfl
    rw [em] at r2
    have lres2 : ((resT hs (plainT ss) t).map Prod.fst).length ≤ 100000 := by rw [List.length_map]; exact lres
    have wres2 : ∀ cs ∈ (resT hs (plainT ss) t).map Prod.fst, cs.length ≤ 3 := fun cs hcs => by
      obtain ⟨r, hr, rfl⟩ := List.mem_map.mp hcs
      rw [wres r hr]
      exact h3l
    generalize (resT hs (plainT ss) t).map Prod.fst = out at r1 r2 lres2 wres2
    clear em
    generalize seenT (resT hs (plainT ss) t) = sn at s1 s2
    show wps (.seq (.asg 12 _) _) R [.sh (.lst (ns.map .int)), .sh (.int z), .sh (.hdl k), .sh (colD hs), .sh (.lst (strL ws)), .sh (.tup (ss.map Stp.d)), .sh (.lst (strL (namesT ss))), .sh (.hdl kd), .sh (.lst (strL sm)), .sh (.lst (t.map cellD)), x10, x11, x12, x13] S3 _
    have put : ∀ (tt : List (List Str)) (Q : DK) (R : XR), tt.length ≤ 100000 → (∀ cs ∈ tt, cs.length ≤ 100000) → Q (.lst ((tt.map (List.map (dictF kvs))).map cellD)) S3 → F_law_put_for.run [.hdl kd, .lst (tt.map cellD)] S3 Q R := fun tt Q R hl hw q => by
      refine ⟨kd, kvs, tt.map (List.map some), by rw [tab_opt], f2, by rw [List.length_map]; omega, fun r hr => ?_, ?_⟩
      · obtain ⟨cs, hcs, rfl⟩ := List.mem_map.mp hr
        rw [List.length_map]
        have := hw cs hcs
        omega
      · rw [tab_put]
        exact q
    rw [wps_seq, wps_asg, wp_call]
    refine xe_ok _ _ _ _ _ (.tup [.hdl kd, .lst (t.map cellD)]) rfl ?_
    refine put t _ _ (by omega) (fun cs h => by rw [tb.wide cs h]; omega) ?_
    show wps (.seq (.ite _ _ _) _) R [.sh (.lst (ns.map .int)), .sh (.int z), .sh (.hdl k), .sh (colD hs), .sh (.lst (strL ws)), .sh (.tup (ss.map Stp.d)), .sh (.lst (strL (namesT ss))), .sh (.hdl kd), .sh (.lst (strL sm)), .sh (.lst (t.map cellD)), x10, x11, .sh (.lst ((t.map (List.map (dictF kvs))).map cellD)), x13] S3 _
    refine w_ifW (k := false) ?_ ?_
    · rw [wp_cmp]
      refine xe_ok _ _ _ _ _ (.lst ((out.map (List.map (dictF kvs))).map cellD)) ?_ ?_
      · show F_run.ex [.tup (strL hs), .tup (ss.map Stp.d), .lst ((t.map (List.map (dictF kvs))).map cellD)] = _
        exact r2
      rw [wp_call]
      refine xe_ok _ _ _ _ _ (.tup [.hdl kd, .lst (out.map cellD)]) ?_ ?_
      · have e : xe (.call "run" F_run (.cons (.var 3) (.cons (.var 5) (.cons (.var 9) .nil)))) [.sh (.lst (ns.map .int)), .sh (.int z), .sh (.hdl k), .sh (colD hs), .sh (.lst (strL ws)), .sh (.tup (ss.map Stp.d)), .sh (.lst (strL (namesT ss))), .sh (.hdl kd), .sh (.lst (strL sm)), .sh (.lst (t.map cellD)), x10, x11, .sh (.lst ((t.map (List.map (dictF kvs))).map cellD)), x13] = some (.lst (out.map cellD)) := r1
        simp only [xe_cons, e]
        rfl
      refine put out _ _ lres2 (fun cs h => by have := wres2 cs h; omega) ?_
      show opt (cmpD .ne (.lst _) (.lst _)) _
      rw [lst_ne (okD_cells 10 _) rfl]
      exact ⟨rfl, rfl⟩
    rw [if_neg Bool.false_ne_true]
    refine w_skip ?_
    refine w_ifW (k := false) ?_ ?_
    · rw [wp_cmp]
      refine xe_ok _ _ _ _ _ (.lst (sn.map fun n => .int (n : Nat))) ?_ ?_
      · show F_seen_after.ex [.tup (strL hs), .tup (ss.map Stp.d), .lst ((t.map (List.map (dictF kvs))).map cellD)] = _
        exact s2
      refine xe_ok _ _ _ _ _ (.lst (sn.map fun n => .int (n : Nat))) ?_ ?_
      · show F_seen_after.ex [.tup (strL hs), .tup (ss.map Stp.d), .lst (t.map cellD)] = _
        exact s1
      show opt (cmpD .ne (.lst _) (.lst _)) _
      rw [lst_ne (all_ints _) rfl]
      exact ⟨rfl, rfl⟩
    rw [if_neg Bool.false_ne_true]
    refine w_skip ?_
    refine w_asg (d := .lst [optL (mm.2.map (Option.map (dictF kvs)))]) ?_ ?_
    · have e : xe (.call "memory_behind" F_memory_behind (.cons (.var 3) (.cons (.var 5) (.cons (.var 12) .nil)))) [.sh (.lst (ns.map .int)), .sh (.int z), .sh (.hdl k), .sh (colD hs), .sh (.lst (strL ws)), .sh (.tup (ss.map Stp.d)), .sh (.lst (strL (namesT ss))), .sh (.hdl kd), .sh (.lst (strL sm)), .sh (.lst (t.map cellD)), x10, x11, .sh (.lst ((t.map (List.map (dictF kvs))).map cellD)), x13] = some (optL (mm.2.map (Option.map (dictF kvs)))) := m2
      simp only [xe_lst, xe_cons, e, xe_nil]
      simp [sizeLine_eq]
    show wps (.seq (.ite _ _ _) _) R [.sh (.lst (ns.map .int)), .sh (.int z), .sh (.hdl k), .sh (colD hs), .sh (.lst (strL ws)), .sh (.tup (ss.map Stp.d)), .sh (.lst (strL (namesT ss))), .sh (.hdl kd), .sh (.lst (strL sm)), .sh (.lst (t.map cellD)), x10, x11, .sh (.lst ((t.map (List.map (dictF kvs))).map cellD)), .sh (.lst [optL (mm.2.map (Option.map (dictF kvs)))])] S3 _
    refine w_ifW (k := false) ?_ ?_
    · rw [wp_cmp, wp_var]
      show wp (.call "_law_put_for" F_law_put_for (.cons (.var 7) (.cons (.lst (.cons (.call "memory_behind" F_memory_behind (.cons (.var 3) (.cons (.var 5) (.cons (.var 9) .nil)))) .nil)) .nil))) R [.sh (.lst (ns.map .int)), .sh (.int z), .sh (.hdl k), .sh (colD hs), .sh (.lst (strL ws)), .sh (.tup (ss.map Stp.d)), .sh (.lst (strL (namesT ss))), .sh (.hdl kd), .sh (.lst (strL sm)), .sh (.lst (t.map cellD)), x10, x11, .sh (.lst ((t.map (List.map (dictF kvs))).map cellD)), .sh (.lst [optL (mm.2.map (Option.map (dictF kvs)))])] S3 _
      rw [wp_call]
      refine xe_ok _ _ _ _ _ (.tup [.hdl kd, .lst ([mm.2].map optL)]) ?_ ?_
      · have e : xe (.call "memory_behind" F_memory_behind (.cons (.var 3) (.cons (.var 5) (.cons (.var 9) .nil)))) [.sh (.lst (ns.map .int)), .sh (.int z), .sh (.hdl k), .sh (colD hs), .sh (.lst (strL ws)), .sh (.tup (ss.map Stp.d)), .sh (.lst (strL (namesT ss))), .sh (.hdl kd), .sh (.lst (strL sm)), .sh (.lst (t.map cellD)), x10, x11, .sh (.lst ((t.map (List.map (dictF kvs))).map cellD)), .sh (.lst [optL (mm.2.map (Option.map (dictF kvs)))])] = some (optL mm.2) := m1
        simp only [xe_lst, xe_cons, e, xe_nil, xe_var]
        simp [sizeLine_eq]
      refine ⟨kd, kvs, [mm.2], rfl, f2, by show 1 ≤ 1000000; decide, fun r hr => ?_, ?_⟩
      · rw [List.mem_singleton] at hr
        rw [hr]
        omega
      · show opt (cmpD .ne (.lst _) (.lst _)) _
        rw [lst_ne (xs := [optL (mm.2.map (Option.map (dictF kvs)))]) (ys := [mm.2].map fun r => optL (r.map (Option.map (dictF kvs)))) (by show (okD 11 (optL _) && true) = true; rw [opt_okD]; rfl) rfl]
        exact ⟨rfl, rfl⟩
    rw [if_neg Bool.false_ne_true]
    refine w_skip ?_
    exact ⟨hi, _, _, _, _, _, _, _, _, _, _, _, _, _, rfl⟩
  · rintro ds ρ S' _
    exact ⟨S', Sle.refl S', q S'⟩
end Vr

namespace Hd
open PySem PySem.Spec PyProof.Rows L2
def top (i : Nat) : Stmt := PySem.Challenge.pw_visiblerows_k06_whole_words_that_are_not.main.body.getD i (.Pass ⟨0, 0, 0, 0⟩)
abbrev s_is_word : Stmt := top 14
def d_is_word : He.DefD := ⟨("is_word", none), "is_word", "is_word", defArgs s_is_word, defBody s_is_word, defScope s_is_word, [], []⟩
abbrev s_is_columns : Stmt := top 15
def d_is_columns : He.DefD := ⟨("is_columns", none), "is_columns", "is_columns", defArgs s_is_columns, defBody s_is_columns, defScope s_is_columns, [], []⟩
abbrev s_is_column : Stmt := top 16
def d_is_column : He.DefD := ⟨("is_column", none), "is_column", "is_column", defArgs s_is_column, defBody s_is_column, defScope s_is_column, [], []⟩
abbrev s_are_two : Stmt := top 17
def d_are_two : He.DefD := ⟨("are_two", none), "are_two", "are_two", defArgs s_are_two, defBody s_are_two, defScope s_are_two, [], []⟩
abbrev s_is_test : Stmt := top 18
def d_is_test : He.DefD := ⟨("is_test", none), "is_test", "is_test", defArgs s_is_test, defBody s_is_test, defScope s_is_test, [], []⟩
abbrev s_is_step_of : Stmt := top 19
def d_is_step_of : He.DefD := ⟨("is_step_of", none), "is_step_of", "is_step_of", defArgs s_is_step_of, defBody s_is_step_of, defScope s_is_step_of, [], []⟩
abbrev s_unfolded : Stmt := top 20
def d_unfolded : He.DefD := ⟨("unfolded", none), "unfolded", "unfolded", defArgs s_unfolded, defBody s_unfolded, defScope s_unfolded, [], []⟩
abbrev s_has_memory : Stmt := top 21
def d_has_memory : He.DefD := ⟨("has_memory", none), "has_memory", "has_memory", defArgs s_has_memory, defBody s_has_memory, defScope s_has_memory, [], []⟩
abbrev s_count_memories : Stmt := top 22
def d_count_memories : He.DefD := ⟨("count_memories", none), "count_memories", "count_memories", defArgs s_count_memories, defBody s_count_memories, defScope s_count_memories, [], []⟩
abbrev s_is_script_of : Stmt := top 23
def d_is_script_of : He.DefD := ⟨("is_script_of", none), "is_script_of", "is_script_of", defArgs s_is_script_of, defBody s_is_script_of, defScope s_is_script_of, [], []⟩
abbrev s_need_columns : Stmt := top 24
def d_need_columns : He.DefD := ⟨("need_columns", none), "need_columns", "need_columns", defArgs s_need_columns, defBody s_need_columns, defScope s_need_columns, [], []⟩
abbrev s_need_script : Stmt := top 25
def d_need_script : He.DefD := ⟨("need_script", none), "need_script", "need_script", defArgs s_need_script, defBody s_need_script, defScope s_need_script, [], []⟩
abbrev s_is_row_of : Stmt := top 28
def d_is_row_of : He.DefD := ⟨("is_row_of", none), "is_row_of", "is_row_of", defArgs s_is_row_of, defBody s_is_row_of, defScope s_is_row_of, [], []⟩
abbrev s_is_table_of : Stmt := top 29
def d_is_table_of : He.DefD := ⟨("is_table_of", none), "is_table_of", "is_table_of", defArgs s_is_table_of, defBody s_is_table_of, defScope s_is_table_of, [], []⟩
abbrev s_need_table : Stmt := top 30
def d_need_table : He.DefD := ⟨("need_table", none), "need_table", "need_table", defArgs s_need_table, defBody s_need_table, defScope s_need_table, [], []⟩
abbrev s_meets : Stmt := top 31
def d_meets : He.DefD := ⟨("meets", none), "meets", "meets", defArgs s_meets, defBody s_meets, defScope s_meets, [], []⟩
abbrev s_changed : Stmt := top 32
def d_changed : He.DefD := ⟨("changed", none), "changed", "changed", defArgs s_changed, defBody s_changed, defScope s_changed, [], []⟩
abbrev s_step_on : Stmt := top 33
def d_step_on : He.DefD := ⟨("step_on", none), "step_on", "step_on", defArgs s_step_on, defBody s_step_on, defScope s_step_on, [], []⟩
abbrev s_row_on : Stmt := top 34
def d_row_on : He.DefD := ⟨("row_on", none), "row_on", "row_on", defArgs s_row_on, defBody s_row_on, defScope s_row_on, [], []⟩
abbrev s_all_rows : Stmt := top 35
def d_all_rows : He.DefD := ⟨("all_rows", none), "all_rows", "all_rows", defArgs s_all_rows, defBody s_all_rows, defScope s_all_rows, [], []⟩
abbrev s_empty_memory : Stmt := top 36
def d_empty_memory : He.DefD := ⟨("empty_memory", none), "empty_memory", "empty_memory", defArgs s_empty_memory, defBody s_empty_memory, defScope s_empty_memory, [], []⟩
abbrev s_joined : Stmt := top 37
def d_joined : He.DefD := ⟨("joined", none), "joined", "joined", defArgs s_joined, defBody s_joined, defScope s_joined, [], []⟩
abbrev s_result_of : Stmt := top 38
def d_result_of : He.DefD := ⟨("result_of", none), "result_of", "result_of", defArgs s_result_of, defBody s_result_of, defScope s_result_of, [], []⟩
abbrev s_need_all : Stmt := top 39
def d_need_all : He.DefD := ⟨("need_all", none), "need_all", "need_all", defArgs s_need_all, defBody s_need_all, defScope s_need_all, [], []⟩
abbrev s_run : Stmt := top 40
def d_run : He.DefD := ⟨("run", none), "run", "run", defArgs s_run, defBody s_run, defScope s_run, [], []⟩
abbrev s_seen_after : Stmt := top 41
def d_seen_after : He.DefD := ⟨("seen_after", none), "seen_after", "seen_after", defArgs s_seen_after, defBody s_seen_after, defScope s_seen_after, [], []⟩
abbrev s_memory_behind : Stmt := top 42
def d_memory_behind : He.DefD := ⟨("memory_behind", none), "memory_behind", "memory_behind", defArgs s_memory_behind, defBody s_memory_behind, defScope s_memory_behind, [], []⟩
abbrev s__law_deck : Stmt := top 44
def d__law_deck : He.DefD := ⟨("_law_deck", none), "_law_deck", "_law_deck", defArgs s__law_deck, defBody s__law_deck, defScope s__law_deck, [], []⟩
abbrev s__law_pick : Stmt := top 45
def d__law_pick : He.DefD := ⟨("_law_pick", none), "_law_pick", "_law_pick", defArgs s__law_pick, defBody s__law_pick, defScope s__law_pick, [], []⟩
abbrev s__law_one : Stmt := top 46
def d__law_one : He.DefD := ⟨("_law_one", none), "_law_one", "_law_one", defArgs s__law_one, defBody s__law_one, defScope s__law_one, [], []⟩
abbrev s__law_columns : Stmt := top 47
def d__law_columns : He.DefD := ⟨("_law_columns", none), "_law_columns", "_law_columns", defArgs s__law_columns, defBody s__law_columns, defScope s__law_columns, [], []⟩
abbrev s__law_words : Stmt := top 48
def d__law_words : He.DefD := ⟨("_law_words", none), "_law_words", "_law_words", defArgs s__law_words, defBody s__law_words, defScope s__law_words, [], []⟩
abbrev s__law_test : Stmt := top 49
def d__law_test : He.DefD := ⟨("_law_test", none), "_law_test", "_law_test", defArgs s__law_test, defBody s__law_test, defScope s__law_test, [], []⟩
abbrev s__law_step : Stmt := top 50
def d__law_step : He.DefD := ⟨("_law_step", none), "_law_step", "_law_step", defArgs s__law_step, defBody s__law_step, defScope s__law_step, [], []⟩
abbrev s__law_plain : Stmt := top 51
def d__law_plain : He.DefD := ⟨("_law_plain", none), "_law_plain", "_law_plain", defArgs s__law_plain, defBody s__law_plain, defScope s__law_plain, [], []⟩
abbrev s__law_remembers : Stmt := top 52
def d__law_remembers : He.DefD := ⟨("_law_remembers", none), "_law_remembers", "_law_remembers", defArgs s__law_remembers, defBody s__law_remembers, defScope s__law_remembers, [], []⟩
abbrev s__law_load : Stmt := top 53
def d__law_load : He.DefD := ⟨("_law_load", none), "_law_load", "_law_load", defArgs s__law_load, defBody s__law_load, defScope s__law_load, [], []⟩
abbrev s__law_script : Stmt := top 54
def d__law_script : He.DefD := ⟨("_law_script", none), "_law_script", "_law_script", defArgs s__law_script, defBody s__law_script, defScope s__law_script, [], []⟩
abbrev s__law_named : Stmt := top 55
def d__law_named : He.DefD := ⟨("_law_named", none), "_law_named", "_law_named", defArgs s__law_named, defBody s__law_named, defScope s__law_named, [], []⟩
abbrev s__law_exchange : Stmt := top 56
def d__law_exchange : He.DefD := ⟨("_law_exchange", none), "_law_exchange", "_law_exchange", defArgs s__law_exchange, defBody s__law_exchange, defScope s__law_exchange, [], []⟩
abbrev s__law_put_for : Stmt := top 57
def d__law_put_for : He.DefD := ⟨("_law_put_for", none), "_law_put_for", "_law_put_for", defArgs s__law_put_for, defBody s__law_put_for, defScope s__law_put_for, [], []⟩
abbrev s_law : Stmt := top 58
def d_law : He.DefD := ⟨("law", none), "law", "law", defArgs s_law, defBody s_law, defScope s_law, [], []⟩
def fn : List He.DefD := ([d_is_word, d_is_columns, d_is_column, d_are_two, d_is_test, d_is_step_of, d_unfolded, d_has_memory, d_count_memories, d_is_script_of, d_need_columns, d_need_script, d_is_row_of, d_is_table_of, d_need_table, d_meets, d_changed, d_step_on, d_row_on, d_all_rows, d_empty_memory, d_joined, d_result_of, d_need_all, d_run, d_seen_after, d_memory_behind, d__law_deck, d__law_pick, d__law_one] : List He.DefD) ++ ([d__law_columns, d__law_words, d__law_test, d__law_step, d__law_plain, d__law_remembers, d__law_load, d__law_script, d__law_named, d__law_exchange, d__law_put_for, d_law] : List He.DefD)
def gs : List Vr.GetD := ([] : List Vr.GetD)
def fa : List He.Fa := ([.glo "is_word", .glo "is_columns", .glo "is_column", .glo "are_two", .glo "is_test", .glo "is_step_of", .glo "unfolded", .glo "has_memory", .glo "count_memories", .glo "is_script_of", .glo "need_columns", .glo "need_script", .glo "is_row_of", .glo "is_table_of", .glo "need_table", .glo "meets", .glo "changed", .glo "step_on", .glo "row_on", .glo "all_rows", .glo "empty_memory", .glo "joined", .glo "result_of", .glo "need_all", .glo "run", .glo "seen_after", .glo "memory_behind", .glo "_law_deck", .glo "_law_pick", .glo "_law_one"] : List He.Fa) ++ ([.glo "_law_columns", .glo "_law_words", .glo "_law_test", .glo "_law_step", .glo "_law_plain", .glo "_law_remembers", .glo "_law_load", .glo "_law_script", .glo "_law_named", .glo "_law_exchange", .glo "_law_put_for", .glo "law", .str "LETTERS" "abcdefghijklmnopqrstuvwxyz", .int "MOST_LETTERS" 8, .int "MOST_COLUMNS" 3, .int "MOST_STEPS" 10, .int "MOST_DOUBLES" 2, .int "MOST_MEMORIES" 3, .glo "PLAIN", .glo "ON_COLUMN", .int "MOST_ROWS" 200, .glo "SheetError", .glo "InvalidColumns", .glo "InvalidScript", .glo "InvalidTable", .exc "InvalidColumns", .exc "InvalidScript", .exc "InvalidTable", .free "len", .free "all"] : List He.Fa) ++ ([.free "any", .free "tuple", .free "list", .free "int", .free "isinstance", .free "bool", .free "str", .free "enumerate", .free "zip", .free "range", .free "sorted", .free "set"] : List He.Fa)
def ex (K : PySem.W.Frag) : Bool := Vr.tupK K "PLAIN" ["all", "again", "drop", "double"] && Vr.tupK K "ON_COLUMN" ["first", "down"]
def loose : List PySem.Str := (["SheetError", "InvalidColumns", "InvalidScript", "InvalidTable", "is_word", "is_columns", "is_column", "are_two", "is_test", "is_step_of", "unfolded", "has_memory", "count_memories", "is_script_of", "need_columns", "need_script", "is_row_of", "is_table_of", "need_table", "meets", "changed", "step_on", "row_on", "all_rows", "empty_memory", "joined", "result_of", "need_all", "run", "seen_after"] : List PySem.Str) ++ (["memory_behind", "_law_deck", "_law_pick", "_law_one", "_law_columns", "_law_words", "_law_test", "_law_step", "_law_plain", "_law_remembers", "_law_load", "_law_script", "_law_named", "_law_exchange", "_law_put_for", "LETTERS", "MOST_LETTERS", "MOST_COLUMNS", "MOST_STEPS", "MOST_DOUBLES", "MOST_MEMORIES", "PLAIN", "ON_COLUMN", "MOST_ROWS"] : List PySem.Str)
abbrev R : PySem.W.OpenRow := PySem.W.OpenLaw.row PySem.Challenge.rw_visiblerows_k06_whole_words_that_are_not
abbrev hk : PySem.W.Hook := Vr.hookZ 4 fa fn gs ex
def ob (s : PySem.W.SharedT) : Vr.AlZ := Vr.obsZ 4 fa fn gs ex (HandSHeadRun.getT s)
theorem ob_eq (s : PySem.W.SharedT) : ob s = hk.obs s.abs := Vr.obsZ_eq (HandSHeadRun.getT_eq s)
theorem run (w : World) : HandSHeadRun.RunEq R (PySem.W.view R.prog [58]) hk ob 4000 loose w := by
  intro os
  kernel_rfl
end Hd

namespace Vr
open PySem PySem.Spec PyProof.Rows L2
theorem c_is_word : chkS N_is_word (defScope Hd.s_is_word) F_is_word.own S_is_word (defBody Hd.s_is_word) = true := by kernel_rfl
theorem z_is_word : C8.scC N_is_word P_is_word (defScope Hd.s_is_word) = true := by kernel_rfl
theorem c_is_columns : chkS N_is_columns (defScope Hd.s_is_columns) F_is_columns.own S_is_columns (defBody Hd.s_is_columns) = true := by kernel_rfl
theorem z_is_columns : C8.scC N_is_columns P_is_columns (defScope Hd.s_is_columns) = true := by kernel_rfl
theorem c_is_column : chkS N_is_column (defScope Hd.s_is_column) F_is_column.own S_is_column (defBody Hd.s_is_column) = true := by kernel_rfl
theorem z_is_column : C8.scC N_is_column P_is_column (defScope Hd.s_is_column) = true := by kernel_rfl
theorem c_are_two : chkS N_are_two (defScope Hd.s_are_two) F_are_two.own S_are_two (defBody Hd.s_are_two) = true := by kernel_rfl
theorem z_are_two : C8.scC N_are_two P_are_two (defScope Hd.s_are_two) = true := by kernel_rfl
theorem c_is_test : chkS N_is_test (defScope Hd.s_is_test) F_is_test.own S_is_test (defBody Hd.s_is_test) = true := by kernel_rfl
theorem z_is_test : C8.scC N_is_test P_is_test (defScope Hd.s_is_test) = true := by kernel_rfl
theorem c_is_step_of : chkS N_is_step_of (defScope Hd.s_is_step_of) F_is_step_of.own S_is_step_of (defBody Hd.s_is_step_of) = true := by kernel_rfl
theorem z_is_step_of : C8.scC N_is_step_of P_is_step_of (defScope Hd.s_is_step_of) = true := by kernel_rfl
theorem c_unfolded : chkS N_unfolded (defScope Hd.s_unfolded) F_unfolded.own S_unfolded (defBody Hd.s_unfolded) = true := by kernel_rfl
theorem z_unfolded : C8.scC N_unfolded P_unfolded (defScope Hd.s_unfolded) = true := by kernel_rfl
theorem c_has_memory : chkS N_has_memory (defScope Hd.s_has_memory) F_has_memory.own S_has_memory (defBody Hd.s_has_memory) = true := by kernel_rfl
theorem z_has_memory : C8.scC N_has_memory P_has_memory (defScope Hd.s_has_memory) = true := by kernel_rfl
theorem c_count_memories : chkS N_count_memories (defScope Hd.s_count_memories) F_count_memories.own S_count_memories (defBody Hd.s_count_memories) = true := by kernel_rfl
theorem z_count_memories : C8.scC N_count_memories P_count_memories (defScope Hd.s_count_memories) = true := by kernel_rfl
theorem c_is_script_of : chkS N_is_script_of (defScope Hd.s_is_script_of) F_is_script_of.own S_is_script_of (defBody Hd.s_is_script_of) = true := by kernel_rfl
theorem z_is_script_of : C8.scC N_is_script_of P_is_script_of (defScope Hd.s_is_script_of) = true := by kernel_rfl
theorem c_need_columns : chkS N_need_columns (defScope Hd.s_need_columns) F_need_columns.own S_need_columns (defBody Hd.s_need_columns) = true := by kernel_rfl
theorem z_need_columns : C8.scC N_need_columns P_need_columns (defScope Hd.s_need_columns) = true := by kernel_rfl
theorem c_need_script : chkS N_need_script (defScope Hd.s_need_script) F_need_script.own S_need_script (defBody Hd.s_need_script) = true := by kernel_rfl
theorem z_need_script : C8.scC N_need_script P_need_script (defScope Hd.s_need_script) = true := by kernel_rfl
theorem c_is_row_of : chkS N_is_row_of (defScope Hd.s_is_row_of) F_is_row_of.own S_is_row_of (defBody Hd.s_is_row_of) = true := by kernel_rfl
theorem z_is_row_of : C8.scC N_is_row_of P_is_row_of (defScope Hd.s_is_row_of) = true := by kernel_rfl
theorem c_is_table_of : chkS N_is_table_of (defScope Hd.s_is_table_of) F_is_table_of.own S_is_table_of (defBody Hd.s_is_table_of) = true := by kernel_rfl
theorem z_is_table_of : C8.scC N_is_table_of P_is_table_of (defScope Hd.s_is_table_of) = true := by kernel_rfl
theorem c_need_table : chkS N_need_table (defScope Hd.s_need_table) F_need_table.own S_need_table (defBody Hd.s_need_table) = true := by kernel_rfl
theorem z_need_table : C8.scC N_need_table P_need_table (defScope Hd.s_need_table) = true := by kernel_rfl
theorem c_meets : chkS N_meets (defScope Hd.s_meets) F_meets.own S_meets (defBody Hd.s_meets) = true := by kernel_rfl
theorem z_meets : C8.scC N_meets P_meets (defScope Hd.s_meets) = true := by kernel_rfl
theorem c_changed : chkS N_changed (defScope Hd.s_changed) F_changed.own S_changed (defBody Hd.s_changed) = true := by kernel_rfl
theorem z_changed : C8.scC N_changed P_changed (defScope Hd.s_changed) = true := by kernel_rfl
theorem c_step_on : chkS N_step_on (defScope Hd.s_step_on) F_step_on.own S_step_on (defBody Hd.s_step_on) = true := by kernel_rfl
theorem z_step_on : C8.scC N_step_on P_step_on (defScope Hd.s_step_on) = true := by kernel_rfl
theorem c_row_on : chkS N_row_on (defScope Hd.s_row_on) F_row_on.own S_row_on (defBody Hd.s_row_on) = true := by kernel_rfl
theorem z_row_on : C8.scC N_row_on P_row_on (defScope Hd.s_row_on) = true := by kernel_rfl
theorem c_all_rows : chkS N_all_rows (defScope Hd.s_all_rows) F_all_rows.own S_all_rows (defBody Hd.s_all_rows) = true := by kernel_rfl
theorem z_all_rows : C8.scC N_all_rows P_all_rows (defScope Hd.s_all_rows) = true := by kernel_rfl
theorem c_empty_memory : chkS N_empty_memory (defScope Hd.s_empty_memory) F_empty_memory.own S_empty_memory (defBody Hd.s_empty_memory) = true := by kernel_rfl
theorem z_empty_memory : C8.scC N_empty_memory P_empty_memory (defScope Hd.s_empty_memory) = true := by kernel_rfl
theorem c_joined : chkS N_joined (defScope Hd.s_joined) F_joined.own S_joined (defBody Hd.s_joined) = true := by kernel_rfl
theorem z_joined : C8.scC N_joined P_joined (defScope Hd.s_joined) = true := by kernel_rfl
theorem c_result_of : chkS N_result_of (defScope Hd.s_result_of) F_result_of.own S_result_of (defBody Hd.s_result_of) = true := by kernel_rfl
theorem z_result_of : C8.scC N_result_of P_result_of (defScope Hd.s_result_of) = true := by kernel_rfl
theorem c_need_all : chkS N_need_all (defScope Hd.s_need_all) F_need_all.own S_need_all (defBody Hd.s_need_all) = true := by kernel_rfl
theorem z_need_all : C8.scC N_need_all P_need_all (defScope Hd.s_need_all) = true := by kernel_rfl
theorem c_run : chkS N_run (defScope Hd.s_run) F_run.own S_run (defBody Hd.s_run) = true := by kernel_rfl
theorem z_run : C8.scC N_run P_run (defScope Hd.s_run) = true := by kernel_rfl
theorem c_seen_after : chkS N_seen_after (defScope Hd.s_seen_after) F_seen_after.own S_seen_after (defBody Hd.s_seen_after) = true := by kernel_rfl
theorem z_seen_after : C8.scC N_seen_after P_seen_after (defScope Hd.s_seen_after) = true := by kernel_rfl
theorem c_memory_behind : chkS N_memory_behind (defScope Hd.s_memory_behind) F_memory_behind.own S_memory_behind (defBody Hd.s_memory_behind) = true := by kernel_rfl
theorem z_memory_behind : C8.scC N_memory_behind P_memory_behind (defScope Hd.s_memory_behind) = true := by kernel_rfl
theorem c_law_deck : chkS N_law_deck (defScope Hd.s__law_deck) deckF.own S_law_deck (defBody Hd.s__law_deck) = true := by kernel_rfl
theorem z_law_deck : C8.scC N_law_deck P_law_deck (defScope Hd.s__law_deck) = true := by kernel_rfl
theorem c_law_pick : chkS N_law_pick (defScope Hd.s__law_pick) F_law_pick.own S_law_pick (defBody Hd.s__law_pick) = true := by kernel_rfl
theorem z_law_pick : C8.scC N_law_pick P_law_pick (defScope Hd.s__law_pick) = true := by kernel_rfl
theorem c_law_one : chkS N_law_one (defScope Hd.s__law_one) F_law_one.own S_law_one (defBody Hd.s__law_one) = true := by kernel_rfl
theorem z_law_one : C8.scC N_law_one P_law_one (defScope Hd.s__law_one) = true := by kernel_rfl
theorem c_law_columns : chkS N_law_columns (defScope Hd.s__law_columns) F_law_columns.own S_law_columns (defBody Hd.s__law_columns) = true := by kernel_rfl
theorem z_law_columns : C8.scC N_law_columns P_law_columns (defScope Hd.s__law_columns) = true := by kernel_rfl
theorem c_law_words : chkS N_law_words (defScope Hd.s__law_words) F_law_words.own S_law_words (defBody Hd.s__law_words) = true := by kernel_rfl
theorem z_law_words : C8.scC N_law_words P_law_words (defScope Hd.s__law_words) = true := by kernel_rfl
theorem c_law_test : chkS N_law_test (defScope Hd.s__law_test) F_law_test.own S_law_test (defBody Hd.s__law_test) = true := by kernel_rfl
theorem z_law_test : C8.scC N_law_test P_law_test (defScope Hd.s__law_test) = true := by kernel_rfl
theorem c_law_step : chkS N_law_step (defScope Hd.s__law_step) F_law_step.own S_law_step (defBody Hd.s__law_step) = true := by kernel_rfl
theorem z_law_step : C8.scC N_law_step P_law_step (defScope Hd.s__law_step) = true := by kernel_rfl
theorem c_law_plain : chkS N_law_plain (defScope Hd.s__law_plain) F_law_plain.own S_law_plain (defBody Hd.s__law_plain) = true := by kernel_rfl
theorem z_law_plain : C8.scC N_law_plain P_law_plain (defScope Hd.s__law_plain) = true := by kernel_rfl
theorem c_law_remembers : chkS N_law_remembers (defScope Hd.s__law_remembers) F_law_remembers.own S_law_remembers (defBody Hd.s__law_remembers) = true := by kernel_rfl
theorem z_law_remembers : C8.scC N_law_remembers P_law_remembers (defScope Hd.s__law_remembers) = true := by kernel_rfl
theorem c_law_load : chkS N_law_load (defScope Hd.s__law_load) F_law_load.own S_law_load (defBody Hd.s__law_load) = true := by kernel_rfl
theorem z_law_load : C8.scC N_law_load P_law_load (defScope Hd.s__law_load) = true := by kernel_rfl
theorem c_law_script : chkS N_law_script (defScope Hd.s__law_script) F_law_script.own S_law_script (defBody Hd.s__law_script) = true := by kernel_rfl
theorem z_law_script : C8.scC N_law_script P_law_script (defScope Hd.s__law_script) = true := by kernel_rfl
theorem c_law_named : chkS N_law_named (defScope Hd.s__law_named) F_law_named.own S_law_named (defBody Hd.s__law_named) = true := by kernel_rfl
theorem z_law_named : C8.scC N_law_named P_law_named (defScope Hd.s__law_named) = true := by kernel_rfl
theorem c_law_exchange : chkS N_law_exchange (defScope Hd.s__law_exchange) F_law_exchange.own S_law_exchange (defBody Hd.s__law_exchange) = true := by kernel_rfl
theorem z_law_exchange : C8.scC N_law_exchange P_law_exchange (defScope Hd.s__law_exchange) = true := by kernel_rfl
theorem c_law_put_for : chkS N_law_put_for (defScope Hd.s__law_put_for) F_law_put_for.own S_law_put_for (defBody Hd.s__law_put_for) = true := by kernel_rfl
theorem z_law_put_for : C8.scC N_law_put_for P_law_put_for (defScope Hd.s__law_put_for) = true := by kernel_rfl
theorem c_law : chkS N_law (defScope Hd.s_law) false S_law (defBody Hd.s_law) = true := by kernel_rfl
theorem z_law : C8.scC N_law P_law (defScope Hd.s_law) = true := by kernel_rfl
section
variable {P : Program} {w : World} {K : PySem.W.Frag} {mg : Str → Option Value} {base h : Heap}
theorem law_facts (X : K.In h) (G : h.Ns mainGlobals mg) (c : He.SaysD Hd.fa Hd.fn K) (e : Hd.ex K = true) (hg : (Hd.gs.map fun d => fnWa K (gAd K d.c d.x)) = Hd.gs.map GetD.val) (hb : Boots mg) : NeedS ⟨P, w, K, mg, base⟩ 8 S_law := by
  have g_LETTERS : GloOk ⟨P, w, K, mg, base⟩ "LETTERS" (.str "abcdefghijklmnopqrstuvwxyz") := glo_str (by decide) X G c 42 rfl
  have g_MOST_LETTERS : GloOk ⟨P, w, K, mg, base⟩ "MOST_LETTERS" (.int (8)) := glo_int X G c 43 rfl
  have g_MOST_COLUMNS : GloOk ⟨P, w, K, mg, base⟩ "MOST_COLUMNS" (.int (3)) := glo_int X G c 44 rfl
  have g_MOST_STEPS : GloOk ⟨P, w, K, mg, base⟩ "MOST_STEPS" (.int (10)) := glo_int X G c 45 rfl
  have g_MOST_DOUBLES : GloOk ⟨P, w, K, mg, base⟩ "MOST_DOUBLES" (.int (2)) := glo_int X G c 46 rfl
  have g_MOST_MEMORIES : GloOk ⟨P, w, K, mg, base⟩ "MOST_MEMORIES" (.int (3)) := glo_int X G c 47 rfl
  have g_MOST_ROWS : GloOk ⟨P, w, K, mg, base⟩ "MOST_ROWS" (.int (200)) := glo_int X G c 50 rfl
  unfold Hd.ex at e
  rw [Bool.and_eq_true] at e
  obtain ⟨e, e_ON_COLUMN⟩ := e
  have e_PLAIN := e
  have g_PLAIN : GloOk ⟨P, w, K, mg, base⟩ "PLAIN" (.tup [(.str "all"), (.str "again"), (.str "drop"), (.str "double")]) := glo_tup (zs := ["all", "again", "drop", "double"]) X G e_PLAIN (by decide) (by decide)
  have g_ON_COLUMN : GloOk ⟨P, w, K, mg, base⟩ "ON_COLUMN" (.tup [(.str "first"), (.str "down")]) := glo_tup (zs := ["first", "down"]) X G e_ON_COLUMN (by decide) (by decide)
  have x_InvalidColumns : ExcFact ⟨P, w, K, mg, base⟩ "InvalidColumns" := exc_fact X G c 52 55 rfl rfl
  have x_InvalidScript : ExcFact ⟨P, w, K, mg, base⟩ "InvalidScript" := exc_fact X G c 53 56 rfl rfl
  have x_InvalidTable : ExcFact ⟨P, w, K, mg, base⟩ "InvalidTable" := exc_fact X G c 54 57 rfl rfl
  have h_is_word : FnFact ⟨P, w, K, mg, base⟩ 1 "is_word" F_is_word := fact_at (params := defArgs Hd.s_is_word) (body := defBody Hd.s_is_word) (scope := defScope Hd.s_is_word) X G c hb 0 0 rfl rfl z_is_word (fun _ _ _ _ _ _ us hl => match us, hl with | [_], _ => rfl) c_is_word (by
    simp only [S_is_word, NeedS, Need, ObFact, TgF, and_true, true_and, and_self, g_MOST_LETTERS, g_LETTERS]) body_is_word
  have h_is_columns : FnFact ⟨P, w, K, mg, base⟩ 2 "is_columns" F_is_columns := fact_at (params := defArgs Hd.s_is_columns) (body := defBody Hd.s_is_columns) (scope := defScope Hd.s_is_columns) X G c hb 1 1 rfl rfl z_is_columns (fun _ _ _ _ _ _ us hl => match us, hl with | [_], _ => rfl) c_is_columns (by
    simp only [S_is_columns, NeedS, Need, ObFact, TgF, and_true, true_and, and_self, FnFact.mono (k := 1) h_is_word (by decide), g_MOST_COLUMNS]) body_is_columns
  have h_is_column : FnFact ⟨P, w, K, mg, base⟩ 1 "is_column" F_is_column := fact_at (params := defArgs Hd.s_is_column) (body := defBody Hd.s_is_column) (scope := defScope Hd.s_is_column) X G c hb 2 2 rfl rfl z_is_column (fun _ _ _ _ _ _ us hl => match us, hl with | [_, _], _ => rfl) c_is_column (by
    simp only [S_is_column, NeedS, Need, ObFact, TgF, and_true, true_and, and_self]) body_is_column
  have h_are_two : FnFact ⟨P, w, K, mg, base⟩ 2 "are_two" F_are_two := fact_at (params := defArgs Hd.s_are_two) (body := defBody Hd.s_are_two) (scope := defScope Hd.s_are_two) X G c hb 3 3 rfl rfl z_are_two (fun _ _ _ _ _ _ us hl => match us, hl with | [_, _], _ => rfl) c_are_two (by
    simp only [S_are_two, NeedS, Need, ObFact, TgF, and_true, true_and, and_self, FnFact.mono (k := 1) h_is_column (by decide)]) body_are_two
  have h_is_test : FnFact ⟨P, w, K, mg, base⟩ 3 "is_test" F_is_test := fact_at (params := defArgs Hd.s_is_test) (body := defBody Hd.s_is_test) (scope := defScope Hd.s_is_test) X G c hb 4 4 rfl rfl z_is_test (fun _ _ _ _ _ _ us hl => match us, hl with | [_, _], _ => rfl) c_is_test (by
    simp only [S_is_test, NeedS, Need, ObFact, TgF, and_true, true_and, and_self, FnFact.mono (k := 2) h_is_column (by decide), FnFact.mono (k := 2) h_are_two (by decide), FnFact.mono (k := 2) h_is_word (by decide)]) body_is_test
  have h_is_step_of : FnFact ⟨P, w, K, mg, base⟩ 4 "is_step_of" F_is_step_of := fact_at (params := defArgs Hd.s_is_step_of) (body := defBody Hd.s_is_step_of) (scope := defScope Hd.s_is_step_of) X G c hb 5 5 rfl rfl z_is_step_of (fun _ _ _ _ _ _ us hl => match us, hl with | [_, _], _ => rfl) c_is_step_of (by
    simp only [S_is_step_of, NeedS, Need, ObFact, TgF, and_true, true_and, and_self, FnFact.mono (k := 3) h_is_column (by decide), FnFact.mono (k := 3) h_is_test (by decide), FnFact.mono (k := 3) h_are_two (by decide), FnFact.mono (k := 3) h_is_word (by decide), g_PLAIN, g_ON_COLUMN]) body_is_step_of
  have h_unfolded : FnFact ⟨P, w, K, mg, base⟩ 1 "unfolded" F_unfolded := fact_at (params := defArgs Hd.s_unfolded) (body := defBody Hd.s_unfolded) (scope := defScope Hd.s_unfolded) X G c hb 6 6 rfl rfl z_unfolded (fun _ _ _ _ _ _ us hl => match us, hl with | [_], _ => rfl) c_unfolded (by
    simp only [S_unfolded, NeedS, Need, ObFact, TgF, and_true, true_and, and_self]) body_unfolded
  have h_has_memory : FnFact ⟨P, w, K, mg, base⟩ 1 "has_memory" F_has_memory := fact_at (params := defArgs Hd.s_has_memory) (body := defBody Hd.s_has_memory) (scope := defScope Hd.s_has_memory) X G c hb 7 7 rfl rfl z_has_memory (fun _ _ _ _ _ _ us hl => match us, hl with | [_], _ => rfl) c_has_memory (by
    simp only [S_has_memory, NeedS, Need, ObFact, TgF, and_true, true_and, and_self, g_ON_COLUMN]) body_has_memory
  have h_count_memories : FnFact ⟨P, w, K, mg, base⟩ 2 "count_memories" F_count_memories := fact_at (params := defArgs Hd.s_count_memories) (body := defBody Hd.s_count_memories) (scope := defScope Hd.s_count_memories) X G c hb 8 8 rfl rfl z_count_memories (fun _ _ _ _ _ _ us hl => match us, hl with | [_], _ => rfl) c_count_memories (by
    simp only [S_count_memories, NeedS, Need, ObFact, TgF, and_true, true_and, and_self, FnFact.mono (k := 1) h_unfolded (by decide), FnFact.mono (k := 1) h_has_memory (by decide)]) body_count_memories
  have h_is_script_of : FnFact ⟨P, w, K, mg, base⟩ 5 "is_script_of" F_is_script_of := fact_at (params := defArgs Hd.s_is_script_of) (body := defBody Hd.s_is_script_of) (scope := defScope Hd.s_is_script_of) X G c hb 9 9 rfl rfl z_is_script_of (fun _ _ _ _ _ _ us hl => match us, hl with | [_, _], _ => rfl) c_is_script_of (by
    simp only [S_is_script_of, NeedS, Need, ObFact, TgF, and_true, true_and, and_self, FnFact.mono (k := 4) h_is_step_of (by decide), FnFact.mono (k := 4) h_count_memories (by decide), g_MOST_STEPS, g_MOST_DOUBLES, g_MOST_MEMORIES]) body_is_script_of
  have h_need_columns : FnFact ⟨P, w, K, mg, base⟩ 3 "need_columns" F_need_columns := fact_at (params := defArgs Hd.s_need_columns) (body := defBody Hd.s_need_columns) (scope := defScope Hd.s_need_columns) X G c hb 10 10 rfl rfl z_need_columns (fun _ _ _ _ _ _ us hl => match us, hl with | [_], _ => rfl) c_need_columns (by
    simp only [S_need_columns, NeedS, Need, ObFact, TgF, and_true, true_and, and_self, FnFact.mono (k := 2) h_is_columns (by decide), x_InvalidColumns]) body_need_columns
  have h_need_script : FnFact ⟨P, w, K, mg, base⟩ 6 "need_script" F_need_script := fact_at (params := defArgs Hd.s_need_script) (body := defBody Hd.s_need_script) (scope := defScope Hd.s_need_script) X G c hb 11 11 rfl rfl z_need_script (fun _ _ _ _ _ _ us hl => match us, hl with | [_, _], _ => rfl) c_need_script (by
    simp only [S_need_script, NeedS, Need, ObFact, TgF, and_true, true_and, and_self, FnFact.mono (k := 5) h_need_columns (by decide), FnFact.mono (k := 5) h_is_script_of (by decide), x_InvalidScript]) body_need_script
  have h_is_row_of : FnFact ⟨P, w, K, mg, base⟩ 2 "is_row_of" F_is_row_of := fact_at (params := defArgs Hd.s_is_row_of) (body := defBody Hd.s_is_row_of) (scope := defScope Hd.s_is_row_of) X G c hb 12 12 rfl rfl z_is_row_of (fun _ _ _ _ _ _ us hl => match us, hl with | [_, _], _ => rfl) c_is_row_of (by
    simp only [S_is_row_of, NeedS, Need, ObFact, TgF, and_true, true_and, and_self, FnFact.mono (k := 1) h_is_word (by decide)]) body_is_row_of
  have h_is_table_of : FnFact ⟨P, w, K, mg, base⟩ 3 "is_table_of" F_is_table_of := fact_at (params := defArgs Hd.s_is_table_of) (body := defBody Hd.s_is_table_of) (scope := defScope Hd.s_is_table_of) X G c hb 13 13 rfl rfl z_is_table_of (fun _ _ _ _ _ _ us hl => match us, hl with | [_, _], _ => rfl) c_is_table_of (by
    simp only [S_is_table_of, NeedS, Need, ObFact, TgF, and_true, true_and, and_self, FnFact.mono (k := 2) h_is_row_of (by decide), g_MOST_ROWS]) body_is_table_of
  have h_need_table : FnFact ⟨P, w, K, mg, base⟩ 4 "need_table" F_need_table := fact_at (params := defArgs Hd.s_need_table) (body := defBody Hd.s_need_table) (scope := defScope Hd.s_need_table) X G c hb 14 14 rfl rfl z_need_table (fun _ _ _ _ _ _ us hl => match us, hl with | [_, _], _ => rfl) c_need_table (by
    simp only [S_need_table, NeedS, Need, ObFact, TgF, and_true, true_and, and_self, FnFact.mono (k := 3) h_is_table_of (by decide), x_InvalidTable]) body_need_table
  have h_meets : FnFact ⟨P, w, K, mg, base⟩ 1 "meets" F_meets := fact_at (params := defArgs Hd.s_meets) (body := defBody Hd.s_meets) (scope := defScope Hd.s_meets) X G c hb 15 15 rfl rfl z_meets (fun _ _ _ _ _ _ us hl => match us, hl with | [_, _, _, _], _ => rfl) c_meets (by
    simp only [S_meets, NeedS, Need, ObFact, TgF, and_true, true_and, and_self]) body_meets
  have h_changed : FnFact ⟨P, w, K, mg, base⟩ 1 "changed" F_changed := fact_at (params := defArgs Hd.s_changed) (body := defBody Hd.s_changed) (scope := defScope Hd.s_changed) X G c hb 16 16 rfl rfl z_changed (fun _ _ _ _ _ _ us hl => match us, hl with | [_, _, _, _], _ => rfl) c_changed (by
    simp only [S_changed, NeedS, Need, ObFact, TgF, and_true, true_and, and_self]) body_changed
  have h_step_on : FnFact ⟨P, w, K, mg, base⟩ 2 "step_on" F_step_on := fact_at (params := defArgs Hd.s_step_on) (body := defBody Hd.s_step_on) (scope := defScope Hd.s_step_on) X G c hb 17 17 rfl rfl z_step_on (fun _ _ _ _ _ _ us hl => match us, hl with | [_, _, _, _], _ => rfl) c_step_on (by
    simp only [S_step_on, NeedS, Need, ObFact, TgF, and_true, true_and, and_self, FnFact.mono (k := 1) h_meets (by decide), FnFact.mono (k := 1) h_changed (by decide)]) body_step_on
  have h_row_on : FnFact ⟨P, w, K, mg, base⟩ 3 "row_on" F_row_on := fact_at (params := defArgs Hd.s_row_on) (body := defBody Hd.s_row_on) (scope := defScope Hd.s_row_on) X G c hb 18 18 rfl rfl z_row_on (fun _ _ _ _ _ _ us hl => match us, hl with | [_, _, _, _], _ => rfl) c_row_on (by
    simp only [S_row_on, NeedS, Need, ObFact, TgF, and_true, true_and, and_self, FnFact.mono (k := 2) h_has_memory (by decide), FnFact.mono (k := 2) h_step_on (by decide)]) body_row_on
  have h_all_rows : FnFact ⟨P, w, K, mg, base⟩ 4 "all_rows" F_all_rows := fact_at (params := defArgs Hd.s_all_rows) (body := defBody Hd.s_all_rows) (scope := defScope Hd.s_all_rows) X G c hb 19 19 rfl rfl z_all_rows (fun _ _ _ _ _ _ us hl => match us, hl with | [_, _, _, _], _ => rfl) c_all_rows (by
    simp only [S_all_rows, NeedS, Need, ObFact, TgF, and_true, true_and, and_self, FnFact.mono (k := 3) h_row_on (by decide)]) body_all_rows
  have h_empty_memory : FnFact ⟨P, w, K, mg, base⟩ 2 "empty_memory" F_empty_memory := fact_at (params := defArgs Hd.s_empty_memory) (body := defBody Hd.s_empty_memory) (scope := defScope Hd.s_empty_memory) X G c hb 20 20 rfl rfl z_empty_memory (fun _ _ _ _ _ _ us hl => match us, hl with | [_], _ => rfl) c_empty_memory (by
    simp only [S_empty_memory, NeedS, Need, ObFact, TgF, and_true, true_and, and_self, FnFact.mono (k := 1) h_has_memory (by decide)]) body_empty_memory
  have h_joined : FnFact ⟨P, w, K, mg, base⟩ 1 "joined" F_joined := fact_at (params := defArgs Hd.s_joined) (body := defBody Hd.s_joined) (scope := defScope Hd.s_joined) X G c hb 21 21 rfl rfl z_joined (fun _ _ _ _ _ _ us hl => match us, hl with | [_], _ => rfl) c_joined (by
    simp only [S_joined, NeedS, Need, ObFact, TgF, and_true, true_and, and_self]) body_joined
  have h_result_of : FnFact ⟨P, w, K, mg, base⟩ 5 "result_of" F_result_of := fact_at (params := defArgs Hd.s_result_of) (body := defBody Hd.s_result_of) (scope := defScope Hd.s_result_of) X G c hb 22 22 rfl rfl z_result_of (fun _ _ _ _ _ _ us hl => match us, hl with | [_, _, _], _ => rfl) c_result_of (by
    simp only [S_result_of, NeedS, Need, ObFact, TgF, and_true, true_and, and_self, FnFact.mono (k := 4) h_joined (by decide), FnFact.mono (k := 4) h_all_rows (by decide), FnFact.mono (k := 4) h_empty_memory (by decide)]) body_result_of
  have h_need_all : FnFact ⟨P, w, K, mg, base⟩ 7 "need_all" F_need_all := fact_at (params := defArgs Hd.s_need_all) (body := defBody Hd.s_need_all) (scope := defScope Hd.s_need_all) X G c hb 23 23 rfl rfl z_need_all (fun _ _ _ _ _ _ us hl => match us, hl with | [_, _, _], _ => rfl) c_need_all (by
    simp only [S_need_all, NeedS, Need, ObFact, TgF, and_true, true_and, and_self, FnFact.mono (k := 6) h_need_script (by decide), FnFact.mono (k := 6) h_need_table (by decide)]) body_need_all
  have h_run : FnFact ⟨P, w, K, mg, base⟩ 8 "run" F_run := fact_at (params := defArgs Hd.s_run) (body := defBody Hd.s_run) (scope := defScope Hd.s_run) X G c hb 24 24 rfl rfl z_run (fun _ _ _ _ _ _ us hl => match us, hl with | [_, _, _], _ => rfl) c_run (by
    simp only [S_run, NeedS, Need, ObFact, TgF, and_true, true_and, and_self, FnFact.mono (k := 7) h_need_all (by decide), FnFact.mono (k := 7) h_result_of (by decide), FnFact.mono (k := 7) h_unfolded (by decide)]) body_run
  have h_seen_after : FnFact ⟨P, w, K, mg, base⟩ 8 "seen_after" F_seen_after := fact_at (params := defArgs Hd.s_seen_after) (body := defBody Hd.s_seen_after) (scope := defScope Hd.s_seen_after) X G c hb 25 25 rfl rfl z_seen_after (fun _ _ _ _ _ _ us hl => match us, hl with | [_, _, _], _ => rfl) c_seen_after (by
    simp only [S_seen_after, NeedS, Need, ObFact, TgF, and_true, true_and, and_self, FnFact.mono (k := 7) h_need_all (by decide), FnFact.mono (k := 7) h_result_of (by decide), FnFact.mono (k := 7) h_unfolded (by decide)]) body_seen_after
  have h_memory_behind : FnFact ⟨P, w, K, mg, base⟩ 8 "memory_behind" F_memory_behind := fact_at (params := defArgs Hd.s_memory_behind) (body := defBody Hd.s_memory_behind) (scope := defScope Hd.s_memory_behind) X G c hb 26 26 rfl rfl z_memory_behind (fun _ _ _ _ _ _ us hl => match us, hl with | [_, _, _], _ => rfl) c_memory_behind (by
    simp only [S_memory_behind, NeedS, Need, ObFact, TgF, and_true, true_and, and_self, FnFact.mono (k := 7) h_need_all (by decide), FnFact.mono (k := 7) h_unfolded (by decide), FnFact.mono (k := 7) h_all_rows (by decide), FnFact.mono (k := 7) h_empty_memory (by decide)]) body_memory_behind
  have h_law_deck0 : FnFact ⟨P, w, K, mg, base⟩ 1 "_law_deck" deckF := fact_at (params := defArgs Hd.s__law_deck) (body := defBody Hd.s__law_deck) (scope := defScope Hd.s__law_deck) X G c hb 27 27 rfl rfl z_law_deck (fun _ _ _ _ _ _ us hl => match us, hl with | [_, _], _ => rfl) c_law_deck (by
    simp only [S_law_deck, NeedS, Need, ObFact, TgF, and_true, true_and, and_self]) body_law_deck
  have h_law_deck := deck_fact h_law_deck0
  have h_law_pick : FnFact ⟨P, w, K, mg, base⟩ 1 "_law_pick" F_law_pick := fact_at (params := defArgs Hd.s__law_pick) (body := defBody Hd.s__law_pick) (scope := defScope Hd.s__law_pick) X G c hb 28 28 rfl rfl z_law_pick (fun _ _ _ _ _ _ us hl => match us, hl with | [_, _], _ => rfl) c_law_pick (by
    simp only [S_law_pick, NeedS, Need, ObFact, TgF, and_true, true_and, and_self]) body_law_pick
  have h_law_one : FnFact ⟨P, w, K, mg, base⟩ 2 "_law_one" F_law_one := fact_at (params := defArgs Hd.s__law_one) (body := defBody Hd.s__law_one) (scope := defScope Hd.s__law_one) X G c hb 29 29 rfl rfl z_law_one (fun _ _ _ _ _ _ us hl => match us, hl with | [_, _], _ => rfl) c_law_one (by
    simp only [S_law_one, NeedS, Need, ObFact, TgF, and_true, true_and, and_self, FnFact.mono (k := 1) h_law_pick (by decide)]) body_law_one
  have h_law_columns : FnFact ⟨P, w, K, mg, base⟩ 3 "_law_columns" F_law_columns := fact_at (params := defArgs Hd.s__law_columns) (body := defBody Hd.s__law_columns) (scope := defScope Hd.s__law_columns) X G c hb 30 30 rfl rfl z_law_columns (fun _ _ _ _ _ _ us hl => match us, hl with | [_], _ => rfl) c_law_columns (by
    simp only [S_law_columns, NeedS, Need, ObFact, TgF, and_true, true_and, and_self, FnFact.mono (k := 2) h_law_one (by decide)]) body_law_columns
  have h_law_words : FnFact ⟨P, w, K, mg, base⟩ 3 "_law_words" F_law_words := fact_at (params := defArgs Hd.s__law_words) (body := defBody Hd.s__law_words) (scope := defScope Hd.s__law_words) X G c hb 31 31 rfl rfl z_law_words (fun _ _ _ _ _ _ us hl => match us, hl with | [_], _ => rfl) c_law_words (by
    simp only [S_law_words, NeedS, Need, ObFact, TgF, and_true, true_and, and_self, FnFact.mono (k := 2) h_law_one (by decide)]) body_law_words
  have h_law_test : FnFact ⟨P, w, K, mg, base⟩ 3 "_law_test" F_law_test := fact_at (params := defArgs Hd.s__law_test) (body := defBody Hd.s__law_test) (scope := defScope Hd.s__law_test) X G c hb 32 32 rfl rfl z_law_test (fun _ _ _ _ _ _ us hl => match us, hl with | [_, _, _], _ => rfl) c_law_test (by
    simp only [S_law_test, NeedS, Need, ObFact, TgF, and_true, true_and, and_self, FnFact.mono (k := 2) h_law_pick (by decide), FnFact.mono (k := 2) h_law_one (by decide)]) body_law_test
  have h_law_step : FnFact ⟨P, w, K, mg, base⟩ 4 "_law_step" F_law_step := fact_at (params := defArgs Hd.s__law_step) (body := defBody Hd.s__law_step) (scope := defScope Hd.s__law_step) X G c hb 33 33 rfl rfl z_law_step (fun _ _ _ _ _ _ us hl => match us, hl with | [_, _, _], _ => rfl) c_law_step (by
    simp only [S_law_step, NeedS, Need, ObFact, TgF, and_true, true_and, and_self, FnFact.mono (k := 3) h_law_pick (by decide), FnFact.mono (k := 3) h_law_test (by decide), FnFact.mono (k := 3) h_law_one (by decide)]) body_law_step
  have h_law_plain : FnFact ⟨P, w, K, mg, base⟩ 1 "_law_plain" F_law_plain := fact_at (params := defArgs Hd.s__law_plain) (body := defBody Hd.s__law_plain) (scope := defScope Hd.s__law_plain) X G c hb 34 34 rfl rfl z_law_plain (fun _ _ _ _ _ _ us hl => match us, hl with | [_], _ => rfl) c_law_plain (by
    simp only [S_law_plain, NeedS, Need, ObFact, TgF, and_true, true_and, and_self]) body_law_plain
  have h_law_remembers : FnFact ⟨P, w, K, mg, base⟩ 1 "_law_remembers" F_law_remembers := fact_at (params := defArgs Hd.s__law_remembers) (body := defBody Hd.s__law_remembers) (scope := defScope Hd.s__law_remembers) X G c hb 35 35 rfl rfl z_law_remembers (fun _ _ _ _ _ _ us hl => match us, hl with | [_], _ => rfl) c_law_remembers (by
    simp only [S_law_remembers, NeedS, Need, ObFact, TgF, and_true, true_and, and_self]) body_law_remembers
  have h_law_load : FnFact ⟨P, w, K, mg, base⟩ 2 "_law_load" F_law_load := fact_at (params := defArgs Hd.s__law_load) (body := defBody Hd.s__law_load) (scope := defScope Hd.s__law_load) X G c hb 36 36 rfl rfl z_law_load (fun _ _ _ _ _ _ us hl => match us, hl with | [_], _ => rfl) c_law_load (by
    simp only [S_law_load, NeedS, Need, ObFact, TgF, and_true, true_and, and_self, FnFact.mono (k := 1) h_law_plain (by decide), FnFact.mono (k := 1) h_law_remembers (by decide)]) body_law_load
  have h_law_script : FnFact ⟨P, w, K, mg, base⟩ 5 "_law_script" F_law_script := fact_at (params := defArgs Hd.s__law_script) (body := defBody Hd.s__law_script) (scope := defScope Hd.s__law_script) X G c hb 37 37 rfl rfl z_law_script (fun _ _ _ _ _ _ us hl => match us, hl with | [_, _, _, _, _], _ => rfl) c_law_script (by
    simp only [S_law_script, NeedS, Need, ObFact, TgF, and_true, true_and, and_self, FnFact.mono (k := 4) h_law_pick (by decide), FnFact.mono (k := 4) h_law_step (by decide), FnFact.mono (k := 4) h_law_load (by decide)]) body_law_script
  have h_law_named : FnFact ⟨P, w, K, mg, base⟩ 1 "_law_named" F_law_named := fact_at (params := defArgs Hd.s__law_named) (body := defBody Hd.s__law_named) (scope := defScope Hd.s__law_named) X G c hb 38 38 rfl rfl z_law_named (fun _ _ _ _ _ _ us hl => match us, hl with | [_], _ => rfl) c_law_named (by
    simp only [S_law_named, NeedS, Need, ObFact, TgF, and_true, true_and, and_self]) body_law_named
  have h_law_exchange : FnFact ⟨P, w, K, mg, base⟩ 2 "_law_exchange" F_law_exchange := fact_at (params := defArgs Hd.s__law_exchange) (body := defBody Hd.s__law_exchange) (scope := defScope Hd.s__law_exchange) X G c hb 39 39 rfl rfl z_law_exchange (fun _ _ _ _ _ _ us hl => match us, hl with | [_, _], _ => rfl) c_law_exchange (by
    simp only [S_law_exchange, NeedS, Need, ObFact, TgF, and_true, true_and, and_self, FnFact.mono (k := 1) h_law_pick (by decide)]) body_law_exchange
  have h_law_put_for : FnFact ⟨P, w, K, mg, base⟩ 1 "_law_put_for" F_law_put_for := fact_at (params := defArgs Hd.s__law_put_for) (body := defBody Hd.s__law_put_for) (scope := defScope Hd.s__law_put_for) X G c hb 40 40 rfl rfl z_law_put_for (fun _ _ _ _ _ _ us hl => match us, hl with | [_, _], _ => rfl) c_law_put_for (by
    simp only [S_law_put_for, NeedS, Need, ObFact, TgF, and_true, true_and, and_self]) body_law_put_for
  have nd : NeedS ⟨P, w, K, mg, base⟩ 8 S_law := by
    simp only [S_law, NeedS, Need, ObFact, TgF, and_true, true_and, and_self, FnFact.mono (k := 8) h_law_deck (by decide), FnFact.mono (k := 8) h_law_words (by decide), FnFact.mono (k := 8) h_law_columns (by decide), FnFact.mono (k := 8) h_law_script (by decide), FnFact.mono (k := 8) h_law_named (by decide), FnFact.mono (k := 8) h_law_exchange (by decide), FnFact.mono (k := 8) h_law_pick (by decide), FnFact.mono (k := 8) h_law_one (by decide), FnFact.mono (k := 8) h_law_put_for (by decide), FnFact.mono (k := 8) h_run (by decide), FnFact.mono (k := 8) h_seen_after (by decide), FnFact.mono (k := 8) h_memory_behind (by decide)]
  exact nd
end
end Vr

open PySem PySem.W PySem.Calls PyProof.Rows
theorem PySem.Challenge.cw_visiblerows_k06_whole_words_that_are_not_holds : PySem.Challenge.rw_visiblerows_k06_whole_words_that_are_not.Holds := by
  w_on; o_law
  refine HandSHeadRun.head_any (r := OpenLaw.row PySem.Challenge.rw_visiblerows_k06_whole_words_that_are_not) (q := view (OpenLaw.row PySem.Challenge.rw_visiblerows_k06_whole_words_that_are_not).prog [58]) (H := Hd.hk) (ob := Hd.ob) (M := 4000) (loose := Hd.loose) (d := HandSHeadRun.topDef (OpenLaw.row PySem.Challenge.rw_visiblerows_k06_whole_words_that_are_not).prog 58) (kwd := []) Hd.ob_eq
    (by kernel_rfl) (fun s => by kernel_rfl) Hd.run (by kernel_rfl) (by kernel_rfl) (by kernel_rfl) (by rfl) (by first | assumption | decide +kernel) (by decide +kernel) ⟨rfl, rfl, rfl, rfl, rfl, by decide +kernel⟩ ?hw ?hc
  case hw => w_witness2
  case hc =>
    refine L2.walk_ofE (l := PySem.Challenge.rw_visiblerows_k06_whole_words_that_are_not) (n := 63) (k := 9) (x := "script") (CX := Vr.CXw PySem.Challenge.rw_visiblerows_k06_whole_words_that_are_not.prog) rfl (by decide) (by kernel_rfl) ⟨rfl, by decide, by decide⟩ ?F Vr.cxw_no
    intro w mg fa h Y G hmg0
    obtain ⟨K, KX, c, ex, hg⟩ := Y
    have hb := Vr.boots_of KX G c (by kernel_rfl)
    exact Vr.law_walk (params := L2.defArgs Hd.s_law) (body := L2.defBody Hd.s_law) (scope := L2.defScope Hd.s_law) (k := 8) KX G hmg0 c hb 41 41 rfl rfl Vr.z_law (fun _ _ _ _ _ _ us hl => match us, hl with | [_], _ => rfl) Vr.c_law Vr.body_law (by decide) fun base => Vr.law_facts KX G c ex hg hb

