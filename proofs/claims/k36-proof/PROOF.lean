import PyProof.Rows.All
import Wide.All
import OpenK.AllK
import Wide.FinOn
import HandS.ForMost
import HandS.Walk
import HandS.Deep
import HandS.Conv
import HandS.TupAny
import HandS.TupMul
import HandS.Exc
import HandS.TryOnly
import HandS.ExcOwn
import HandS.WordsExc
import HandS.TryMany
import HandS.Flow
import HandS.Replace
import KE.KDictDisplayH
import HandS.DictComp
import HandS.TupLen
import HandS.WordsDict
import PyProof.StrOps2
import HandS.Small
import HandS.Codes
import HandS.WideBits
import HandS.Strs
import HandS.SetBool
import HandS.Head0
import HandS.Head1
import HandS.Head2
import HandS.HeadEnd
import HandS.HeadHook1
import HandS.HeadHook2
import HandS.EndBits
import PyProof.P3Eq
import HandS.SortInts
import PyProof.StrLawsIn
import HandS.ExcSuper
import HandS.ExcField
import HandS.ForSpec
import KE.KSuper
import KE.KExcSuper
import PyProof.FString
import KE.GoesEnum
import KE.GoesZip
import KE.GoesMore
import KE.LtData
import KE.SortData
import HandS.More
import KE.KDictWalk
import HandS.Star
import HandS.TupSets
import HandS.Style
import KE.OsScanText
import PySem.Challenge.RW_grammarhall_k36_whole_words_that_reset
set_option Elab.async false
set_option linter.all false
set_option maxRecDepth 100000
set_option maxHeartbeats 4000000
/-! DW: a layer of plain data over HandS. A value is a datum (PyData); tuples and frozen lists are data; a local that holds a list or a dict of its own holds it by value. -/
namespace DW
open PySem PySem.Spec L2

abbrev D := PyData
def Sub (F H : Hp) : Prop := ∀ a o, F a = some o → H a = some o
theorem Sub.refl {F : Hp} : Sub F F := fun _ _ e => e
theorem Sub.trans {F G H : Hp} (a : Sub F G) (b : Sub G H) : Sub F H := fun x o e => b x o (a x o e)
theorem Sub.none {F H : Hp} (s : Sub F H) {a : Addr} (n : H a = none) : F a = none := by
  cases e : F a with
  | none => rfl
  | some o => have q := s a o e; rw [n] at q; cases q
theorem Sub.sqL {K : PySem.W.Frag} {F H : Hp} {a : Addr} {xs : List V} (s : Sub F H) (h : SqL K F a xs) : SqL K H a xs := by
  rcases h with (h | ⟨o, h⟩) | h
  · exact .inl (.inl (s _ _ h))
  · exact .inl (.inr ⟨o, s _ _ h⟩)
  · exact .inr h
theorem Sub.sqT {K : PySem.W.Frag} {F H : Hp} {a : Addr} {xs : List V} (s : Sub F H) (h : SqT K F a xs) : SqT K H a xs := by
  rcases h with (h | ⟨o, h⟩) | h
  · exact .inl (.inl (s _ _ h))
  · exact .inl (.inr ⟨o, s _ _ h⟩)
  · exact .inr h

def keyD : Key → D
  | .inl i => .int i
  | .inr s => .str s
/-- a dict as a datum: its keys with its values -/
def kdK (ks : List Key) (ds : List D) : List (D × D) := (ks.map keyD).zip ds
/-- (marked: tuple keys) -/
def kdT (ks : List (List Key)) (ds : List D) : List (D × D) := (.none, .none) :: (ks.map fun k => PyData.tuple (k.map keyD)).zip ds
mutual
/-- a datum stands at v: its tuples, lists and dicts are in F (the script as it is locked) -/
inductive RepD (K : PySem.W.Frag) (F : Hp) : V → D → Prop where
  | non : RepD K F .non .none
  | bl (b : Bool) : RepD K F (.bl b) (.bool b)
  | int (i : Int) : RepD K F (.int i) (.int i)
  | str (x : Str) : RepD K F (.str x) (.str x)
  | tup {a : Addr} {vs : List V} {ds : List D} : F a = some (.tup vs) → RepL K F vs ds → RepD K F (.ref a) (.tuple ds)
  | lst {a : Addr} {vs : List V} {ds : List D} : F a = some (.lst vs) → RepL K F vs ds → RepD K F (.ref a) (.list ds)
  | dicK {a : Addr} {o : Obj} {ks : List Key} {vs : List V} {ds : List D} : F a = some (.frz o (.dK (ks.zip vs))) → ks.length = vs.length → RepL K F vs ds → RepD K F (.ref a) (.dict (kdK ks ds))
  | dicT {a : Addr} {o : Obj} {ks : List (List Key)} {vs : List V} {ds : List D} : F a = some (.frz o (.dT (ks.zip vs))) → ks.length = vs.length → RepL K F vs ds → RepD K F (.ref a) (.dict (kdT ks ds))
inductive RepL (K : PySem.W.Frag) (F : Hp) : List V → List D → Prop where
  | nil : RepL K F [] []
  | cons {v : V} {d : D} {vs : List V} {ds : List D} : RepD K F v d → RepL K F vs ds → RepL K F (v :: vs) (d :: ds)
end
theorem Sub.rd {F H : Hp} {a : Addr} {u : HO} (s : Sub F H) (h : Rd F a u) : Rd H a u := h.elim (fun h => .inl (s _ _ h)) fun ⟨o, h⟩ => .inr ⟨o, s _ _ h⟩
mutual
theorem RepD.mono {K : PySem.W.Frag} {F F' : Hp} (k : Sub F F') : ∀ {v : V} {d : D}, RepD K F v d → RepD K F' v d
  | _, _, .non => .non
  | _, _, .bl b => .bl b
  | _, _, .int i => .int i
  | _, _, .str x => .str x
  | _, _, .tup e r => .tup (k _ _ e) (RepL.mono k r)
  | _, _, .lst e r => .lst (k _ _ e) (RepL.mono k r)
  | _, _, .dicK e l r => .dicK (k _ _ e) l (RepL.mono k r)
  | _, _, .dicT e l r => .dicT (k _ _ e) l (RepL.mono k r)
theorem RepL.mono {K : PySem.W.Frag} {F F' : Hp} (k : Sub F F') : ∀ {vs : List V} {ds : List D}, RepL K F vs ds → RepL K F' vs ds
  | _, _, .nil => .nil
  | _, _, .cons r t => .cons (RepD.mono k r) (RepL.mono k t)
end
mutual
theorem RepD.dp {K : PySem.W.Frag} {F : Hp} : ∀ {v : V} {d : D}, RepD K F v d → d.canLay0 = true → Dp K F v d
  | _, _, .non, _ => .non
  | _, _, .bl b, _ => .bl b
  | _, _, .int i, _ => .int i
  | _, _, .str x, _ => .str x
  | _, _, .tup e r, h => .tup (.inl (.inl e)) (RepL.dp r (by rw [PyData.canLay0] at h; exact h))
  | _, _, .lst e r, h => .lst (.inl (.inl e)) (RepL.dp r (by rw [PyData.canLay0] at h; exact h))
  | _, _, .dicK e l r, h => by rw [PyData.canLay0] at h; cases h
  | _, _, .dicT e l r, h => by rw [PyData.canLay0] at h; cases h
theorem RepL.dp {K : PySem.W.Frag} {F : Hp} : ∀ {vs : List V} {ds : List D}, RepL K F vs ds → PyData.canLayAll0 ds = true → DpAll K F vs ds
  | _, _, .nil, _ => .nil
  | _, _, .cons r t, h => by
    rw [PyData.canLayAll0, Bool.and_eq_true] at h
    exact .cons (RepD.dp r h.1) (RepL.dp t h.2)
end

theorem RepL.length {K : PySem.W.Frag} {F : Hp} : ∀ {vs : List V} {ds : List D}, RepL K F vs ds → vs.length = ds.length
  | _, _, .nil => rfl
  | _, _, .cons _ t => by rw [List.length_cons, List.length_cons, RepL.length t]
theorem RepL.append {K : PySem.W.Frag} {F : Hp} : ∀ {vs us : List V} {ds es : List D}, RepL K F vs ds → RepL K F us es → RepL K F (vs ++ us) (ds ++ es)
  | _, _, _, _, .nil, s => s
  | _, _, _, _, .cons r t, s => .cons r (RepL.append t s)
theorem RepL.get {K : PySem.W.Frag} {F : Hp} : ∀ {vs : List V} {ds : List D} {i : Nat} {d : D}, RepL K F vs ds → ds[i]? = some d → ∃ v, vs[i]? = some v ∧ RepD K F v d
  | _, _, _, _, .nil, e => by simp at e
  | _, _, 0, _, .cons r _, e => by simp at e; subst e; exact ⟨_, rfl, r⟩
  | _, _, i + 1, _, .cons _ t, e => by
    obtain ⟨u, h1, h2⟩ := RepL.get (i := i) t (by simpa using e)
    exact ⟨u, by simpa using h1, h2⟩
theorem RepL.get' {K : PySem.W.Frag} {F : Hp} : ∀ {vs : List V} {ds : List D} {i : Nat} {v : V}, RepL K F vs ds → vs[i]? = some v → ∃ d, ds[i]? = some d ∧ RepD K F v d
  | _, _, _, _, .nil, e => by simp at e
  | _, _, 0, _, .cons r _, e => by simp at e; subst e; exact ⟨_, rfl, r⟩
  | _, _, i + 1, _, .cons _ t, e => by
    obtain ⟨u, h1, h2⟩ := RepL.get' (i := i) t (by simpa using e)
    exact ⟨u, by simpa using h1, h2⟩
theorem RepL.take {K : PySem.W.Frag} {F : Hp} : ∀ {vs : List V} {ds : List D} (n : Nat), RepL K F vs ds → RepL K F (vs.take n) (ds.take n)
  | _, _, 0, _ => .nil
  | _, _, _ + 1, .nil => .nil
  | _, _, n + 1, .cons r t => .cons r (RepL.take n t)
theorem RepL.drop {K : PySem.W.Frag} {F : Hp} : ∀ {vs : List V} {ds : List D} (n : Nat), RepL K F vs ds → RepL K F (vs.drop n) (ds.drop n)
  | _, _, 0, r => r
  | _, _, _ + 1, .nil => .nil
  | _, _, n + 1, .cons _ t => RepL.drop n t
theorem RepL.set {K : PySem.W.Frag} {F : Hp} {v : V} {d : D} (r : RepD K F v d) : ∀ {vs : List V} {ds : List D} (i : Nat), RepL K F vs ds → RepL K F (vs.set i v) (ds.set i d)
  | _, _, _, .nil => .nil
  | _, _, 0, .cons _ t => .cons r t
  | _, _, i + 1, .cons q t => .cons q (RepL.set r i t)
theorem RepL.dropLast {K : PySem.W.Frag} {F : Hp} {vs : List V} {ds : List D} (r : RepL K F vs ds) : RepL K F vs.dropLast ds.dropLast := by
  rw [List.dropLast_eq_take, List.dropLast_eq_take, RepL.length r]
  exact RepL.take _ r
theorem RepL.eraseIdx {K : PySem.W.Frag} {F : Hp} : ∀ {vs : List V} {ds : List D} (i : Nat), RepL K F vs ds → RepL K F (vs.eraseIdx i) (ds.eraseIdx i)
  | _, _, _, .nil => .nil
  | _, _, 0, .cons _ t => t
  | _, _, i + 1, .cons q t => .cons q (RepL.eraseIdx i t)
theorem RepL.ints {K : PySem.W.Frag} {F : Hp} : ∀ (ns : List Int), RepL K F (ns.map V.int) (ns.map PyData.int)
  | [] => .nil
  | n :: r => .cons (.int n) (RepL.ints r)

/-- the law's drawer: where it stands, where its copy of the script stands, the script -/
structure Dw where
  a : Addr
  s : Addr
  ns : List Int
def Big (n : Int) : Prop := n.natAbs < 2 ^ 1048576
def Drawer (H : Hp) (d : Dw) : Prop :=
  ∃ (i : Nat) (r c : Int), H d.a = some (.lst [.ref d.s, .int i, .int r, .int c]) ∧ 0 ≤ r ∧ Big r ∧ 0 ≤ c ∧ c < 2147483647
structure DwOk (F H : Hp) (d : Dw) : Prop where
  free : F d.a = none
  at_ : Drawer H d
  copy : F d.s = some (.lst (d.ns.map V.int))
  few : d.ns.length ≤ 63
  big : ∀ n ∈ d.ns, Big n

/-- from (F, H) on: what stood stands (the drawer may turn), new things are new -/
structure Ext (w : Option Dw) (F H F' H' : Hp) : Prop where
  fs : Sub F F'
  le : Sub F' H'
  hs : ∀ a o, H a = some o → (∀ d, w = some d → d.a ≠ a) → H' a = some o
  new : ∀ a, F' a ≠ none → F a ≠ none ∨ H a = none ∨ ∃ vs, F' a = some (.tup vs)
  dr : ∀ d, w = some d → DwOk F' H' d
section
variable {w : Option Dw} {F F1 F2 H H1 H2 : Hp}
theorem Ext.refl (le : Sub F H) (dr : ∀ d, w = some d → DwOk F H d) : Ext w F H F H := ⟨Sub.refl, le, fun _ _ e _ => e, fun _ e => .inl e, dr⟩
theorem Ext.stay (x : Ext w F H F1 H1) : Ext w F1 H1 F1 H1 := Ext.refl x.le x.dr
theorem Ext.there (x : Ext w F H F1 H1) {a : Addr} {o : HO} (e : H a = some o) : ∃ u, H1 a = some u := by
  by_cases q : ∃ d, w = some d ∧ d.a = a
  · obtain ⟨d, e1, e2⟩ := q
    obtain ⟨i, r, c, h, _⟩ := (x.dr d e1).at_
    rw [e2] at h
    exact ⟨_, h⟩
  · exact ⟨o, x.hs a o e fun d e1 e2 => q ⟨d, e1, e2⟩⟩
theorem Ext.none (x : Ext w F H F1 H1) {a : Addr} (e : H1 a = none) : H a = none := by
  cases q : H a with
  | none => rfl
  | some u => obtain ⟨w, h⟩ := x.there q; rw [e] at h; cases h
theorem Ext.trans (x : Ext w F H F1 H1) (y : Ext w F1 H1 F2 H2) : Ext w F H F2 H2 where
  fs := x.fs.trans y.fs
  le := y.le
  hs := fun a o e d => y.hs a o (x.hs a o e d) d
  new := fun a e => by
    rcases y.new a e with q | q | q
    · rcases x.new a q with r | r | ⟨vs, r⟩
      · exact .inl r
      · exact .inr (.inl r)
      · exact .inr (.inr ⟨vs, y.fs _ _ r⟩)
    · exact .inr (.inl (x.none q))
    · exact .inr (.inr q)
  dr := y.dr
/-- w's drawer is not at a -/
theorem Ext.off (x : Ext w F H F1 H1) {a : Addr} (e : F1 a ≠ Option.none) : ∀ d, w = some d → d.a ≠ a := fun d e1 e2 => by
  have := (x.dr d e1).free
  rw [e2] at this
  exact e this
theorem upd_grow {p : Addr} {u : HO} (hp : H p = Option.none) : Sub H (upd H p u) := fun b u' e => by
  rw [upd_ne (fun z => by subst z; rw [hp] at e; cases e)]; exact e
theorem Drawer.grow {d : Dw} (x : Drawer H d) (g : Sub H H1) : Drawer H1 d := let ⟨i, r, c, e, q⟩ := x; ⟨i, r, c, g _ _ e, q⟩
/-- a new frozen thing -/
theorem Ext.laid (x : Ext w F H F H) {p : Addr} {u : HO} (hp : H p = Option.none) : Ext w F H (upd F p u) (upd H p u) where
  fs := upd_grow (x.le.none hp)
  le := fun a o e => by
    by_cases ha : a = p
    · subst ha; rw [upd_same] at e ⊢; exact e
    · rw [upd_ne ha] at e ⊢; exact x.le a o e
  hs := fun a o e _ => upd_grow hp a o e
  new := fun a e => by
    by_cases ha : a = p
    · subst ha; exact .inr (.inl hp)
    · rw [upd_ne ha] at e; exact .inl e
  dr := fun d e => by
    have o := x.dr d e
    obtain ⟨i, r, c, h, q⟩ := o.at_
    have hn : d.a ≠ p := fun z => by rw [z, hp] at h; cases h
    exact ⟨by rw [upd_ne hn]; exact o.free, o.at_.grow (upd_grow hp), upd_grow (x.le.none hp) _ _ o.copy, o.few, o.big⟩
/-- a new thing of one's own: not frozen -/
theorem Ext.own (x : Ext w F H F H) {p : Addr} {u : HO} (hp : H p = Option.none) : Ext w F H F (upd H p u) where
  fs := Sub.refl
  le := x.le.trans (upd_grow hp)
  hs := fun a o e _ => upd_grow hp a o e
  new := fun a e => .inl e
  dr := fun d e => let o := x.dr d e; ⟨o.free, o.at_.grow (upd_grow hp), o.copy, o.few, o.big⟩
/-- a thing of one's own, new since (F, H), is frozen -/
theorem Ext.freeze (x : Ext w F H F1 H1) {p : Addr} {u : HO} (h0 : H p = Option.none) (h : H1 p = some u) (n : F1 p = Option.none) (nd : ∀ d, w = some d → d.a ≠ p) : Ext w F H (upd F1 p u) H1 where
  fs := x.fs.trans (upd_grow n)
  le := fun a o e => by
    by_cases ha : a = p
    · subst ha; rw [upd_same] at e; rw [← e]; exact h
    · rw [upd_ne ha] at e; exact x.le a o e
  hs := x.hs
  new := fun a e => by
    by_cases ha : a = p
    · subst ha; exact .inr (.inl h0)
    · rw [upd_ne ha] at e ⊢; exact x.new a e
  dr := fun d e => by
    have o := x.dr d e
    exact ⟨by rw [upd_ne (nd d e)]; exact o.free, o.at_, upd_grow n _ _ o.copy, o.few, o.big⟩
end

/-! ### results, slots -/
/-- what an expression gives: a datum; a new list (dict); a list (dict) of a local; the drawer -/
inductive R where
  | im (d : D) | ol (xs : List D) | bl (xs : List D) | oK (kvs : List (Key × D)) | bK (kvs : List (Key × D)) | oT (kvs : List (List Key × D)) | bT (kvs : List (List Key × D)) | drw
inductive SV where
  | im (d : D) | ol (xs : List D) | oK (kvs : List (Key × D)) | oT (kvs : List (List Key × D)) | drw

inductive RepKV {κ : Type} (K : PySem.W.Frag) (F : Hp) : List (κ × V) → List (κ × D) → Prop where
  | nil : RepKV K F [] []
  | cons {k : κ} {v : V} {d : D} {vs : List (κ × V)} {ds : List (κ × D)} : RepD K F v d → RepKV K F vs ds → RepKV K F ((k, v) :: vs) ((k, d) :: ds)
theorem RepKV.mono {κ : Type} {K : PySem.W.Frag} {F F' : Hp} (k : Sub F F') : ∀ {vs : List (κ × V)} {ds : List (κ × D)}, RepKV K F vs ds → RepKV K F' vs ds
  | _, _, .nil => .nil
  | _, _, .cons r t => .cons (RepD.mono k r) (RepKV.mono k t)

def SV.owned : SV → Bool
  | .ol _ => true
  | .oK _ => true
  | .oT _ => true
  | _ => false
def SV.read : SV → R
  | .im d => .im d
  | .ol xs => .bl xs
  | .oK xs => .bK xs
  | .oT xs => .bT xs
  | .drw => .drw

def RepSV (K : PySem.W.Frag) (w : Option Dw) (F H : Hp) (v : V) : SV → Prop
  | .im d => RepD K F v d
  | .ol xs => ∃ p vs, v = .ref p ∧ H p = some (.lst vs) ∧ F p = none ∧ (∀ d, w = some d → d.a ≠ p) ∧ RepL K F vs xs
  | .oK kvs => ∃ p vs, v = .ref p ∧ H p = some (.dK vs) ∧ F p = none ∧ (∀ d, w = some d → d.a ≠ p) ∧ RepKV K F vs kvs
  | .oT kvs => ∃ p vs, v = .ref p ∧ H p = some (.dT vs) ∧ F p = none ∧ (∀ d, w = some d → d.a ≠ p) ∧ RepKV K F vs kvs
  | .drw => ∃ d, w = some d ∧ v = .ref d.a

abbrev DEnv := List (Option SV)
/-- the ground: the drawer, what stood at the def's entry -/
structure Gd where
  w : Option Dw
  F0 : Hp
  H0 : Hp

structure RepS (K : PySem.W.Frag) (G : Gd) (F H : Hp) (σ : L2.St) (δ : DEnv) : Prop where
  ext : Ext G.w G.F0 G.H0 F H
  len : σ.length = δ.length
  slot : ∀ (i : Nat) s, δ[i]? = some (some s) → ∃ v, σ[i]? = some (some v) ∧ RepSV K G.w F H v s
  fresh : ∀ (i : Nat) s p, δ[i]? = some (some s) → s.owned = true → σ[i]? = some (some (.ref p)) → G.H0 p = none
  apart : ∀ (i j : Nat) s t p, i ≠ j → δ[i]? = some (some s) → δ[j]? = some (some t) → s.owned = true → t.owned = true → σ[i]? = some (some (.ref p)) → σ[j]? ≠ some (some (.ref p))

def RepR (K : PySem.W.Frag) (w : Option Dw) (H F' H' : Hp) (v : V) : R → Prop
  | .im d => RepD K F' v d
  | .ol xs => ∃ p vs, v = .ref p ∧ H p = none ∧ H' p = some (.lst vs) ∧ F' p = none ∧ (∀ d, w = some d → d.a ≠ p) ∧ RepL K F' vs xs
  | .bl xs => ∃ p vs, v = .ref p ∧ H' p = some (.lst vs) ∧ F' p = none ∧ (∀ d, w = some d → d.a ≠ p) ∧ RepL K F' vs xs
  | .oK kvs => ∃ p vs, v = .ref p ∧ H p = none ∧ H' p = some (.dK vs) ∧ F' p = none ∧ (∀ d, w = some d → d.a ≠ p) ∧ RepKV K F' vs kvs
  | .bK kvs => ∃ p vs, v = .ref p ∧ H' p = some (.dK vs) ∧ F' p = none ∧ (∀ d, w = some d → d.a ≠ p) ∧ RepKV K F' vs kvs
  | .oT kvs => ∃ p vs, v = .ref p ∧ H p = none ∧ H' p = some (.dT vs) ∧ F' p = none ∧ (∀ d, w = some d → d.a ≠ p) ∧ RepKV K F' vs kvs
  | .bT kvs => ∃ p vs, v = .ref p ∧ H' p = some (.dT vs) ∧ F' p = none ∧ (∀ d, w = some d → d.a ≠ p) ∧ RepKV K F' vs kvs
  | .drw => ∃ d, w = some d ∧ v = .ref d.a

section
variable {K : PySem.W.Frag} {w : Option Dw} {G : Gd} {F F1 F2 H H1 H2 : Hp} {σ : L2.St} {δ : DEnv}
theorem Ext.keepN (x : Ext w F H F1 H1) {p : Addr} {u : HO} (e : H p = some u) (n : F p = Option.none) (nd : ∀ d, w = some d → d.a ≠ p) (nt : ∀ vs, u ≠ .tup vs := by intro _ z; cases z) : H1 p = some u ∧ F1 p = Option.none := by
  refine ⟨x.hs p u e nd, ?_⟩
  cases q : F1 p with
  | none => rfl
  | some w =>
    rcases x.new p (by rw [q]; intro z; cases z) with r | r | ⟨vs, r⟩
    · exact absurd n r
    · rw [r] at e; cases e
    · have h1 := x.le p _ r
      rw [x.hs p u e nd] at h1
      exact absurd (Option.some.inj h1) (nt vs)
theorem RepSV.ext (x : Ext w F H F1 H1) {v : V} {s : SV} (r : RepSV K w F H v s) : RepSV K w F1 H1 v s := by
  cases s with
  | im d => exact RepD.mono x.fs r
  | ol xs => obtain ⟨p, vs, e, h, n, nd, l⟩ := r; obtain ⟨h', n'⟩ := x.keepN h n nd; exact ⟨p, vs, e, h', n', nd, RepL.mono x.fs l⟩
  | oK xs => obtain ⟨p, vs, e, h, n, nd, l⟩ := r; obtain ⟨h', n'⟩ := x.keepN h n nd; exact ⟨p, vs, e, h', n', nd, l.mono x.fs⟩
  | oT xs => obtain ⟨p, vs, e, h, n, nd, l⟩ := r; obtain ⟨h', n'⟩ := x.keepN h n nd; exact ⟨p, vs, e, h', n', nd, l.mono x.fs⟩
  | drw => exact r
theorem RepS.to (s : RepS K G F H σ δ) (x : Ext G.w F H F1 H1) : RepS K G F1 H1 σ δ :=
  ⟨s.ext.trans x, s.len, fun i t e => let ⟨v, e1, r⟩ := s.slot i t e; ⟨v, e1, r.ext x⟩, s.fresh, s.apart⟩
theorem RepR.to {v : V} {r : R} (q : RepR K w H F1 H1 v r) (x : Ext w F1 H1 F2 H2) : RepR K w H F2 H2 v r := by
  cases r with
  | im d => exact RepD.mono x.fs q
  | ol xs => obtain ⟨p, vs, e, h0, h, n, nd, l⟩ := q; obtain ⟨h', n'⟩ := x.keepN h n nd; exact ⟨p, vs, e, h0, h', n', nd, RepL.mono x.fs l⟩
  | bl xs => obtain ⟨p, vs, e, h, n, nd, l⟩ := q; obtain ⟨h', n'⟩ := x.keepN h n nd; exact ⟨p, vs, e, h', n', nd, RepL.mono x.fs l⟩
  | oK xs => obtain ⟨p, vs, e, h0, h, n, nd, l⟩ := q; obtain ⟨h', n'⟩ := x.keepN h n nd; exact ⟨p, vs, e, h0, h', n', nd, l.mono x.fs⟩
  | bK xs => obtain ⟨p, vs, e, h, n, nd, l⟩ := q; obtain ⟨h', n'⟩ := x.keepN h n nd; exact ⟨p, vs, e, h', n', nd, l.mono x.fs⟩
  | oT xs => obtain ⟨p, vs, e, h0, h, n, nd, l⟩ := q; obtain ⟨h', n'⟩ := x.keepN h n nd; exact ⟨p, vs, e, h0, h', n', nd, l.mono x.fs⟩
  | bT xs => obtain ⟨p, vs, e, h, n, nd, l⟩ := q; obtain ⟨h', n'⟩ := x.keepN h n nd; exact ⟨p, vs, e, h', n', nd, l.mono x.fs⟩
  | drw => exact q
theorem RepR.back {v : V} {r : R} (q : RepR K w H1 F2 H2 v r) (x : Ext w F H F1 H1) : RepR K w H F2 H2 v r := by
  cases r with
  | im d => exact q
  | ol xs => obtain ⟨p, vs, e, h0, h⟩ := q; exact ⟨p, vs, e, x.none h0, h⟩
  | bl xs => exact q
  | oK xs => obtain ⟨p, vs, e, h0, h⟩ := q; exact ⟨p, vs, e, x.none h0, h⟩
  | bK xs => exact q
  | oT xs => obtain ⟨p, vs, e, h0, h⟩ := q; exact ⟨p, vs, e, x.none h0, h⟩
  | bT xs => exact q
  | drw => exact q
end

/-! ### data of results -/
/-- the datum, a new list being frozen -/
def R.dat : R → Option D
  | .im d => some d
  | .ol xs => some (.list xs)
  | _ => none
/-- the items of a list that is read -/
def R.lst : R → Option (List D)
  | .im (.list xs) => some xs
  | .ol xs => some xs
  | .bl xs => some xs
  | _ => none
def R.tup : R → Option (List D)
  | .im (.tuple xs) => some xs
  | _ => none
section
variable {K : PySem.W.Frag} {w : Option Dw} {F F1 F2 H H1 H2 : Hp} {v : V} {r : R}
theorem RepR.freeze (x : Ext w F H F1 H1) (q : RepR K w H F1 H1 v r) {d : D} (e : r.dat = some d) : ∃ F2, Ext w F H F2 H1 ∧ Sub F1 F2 ∧ RepD K F2 v d := by
  cases r with
  | im d' =>
    have z : d' = d := Option.some.inj e
    subst z
    exact ⟨F1, x, Sub.refl, q⟩
  | ol xs =>
    have z : PyData.list xs = d := Option.some.inj e
    subst z
    obtain ⟨p, vs, rfl, h0, h, n, nd, l⟩ := q
    exact ⟨_, x.freeze h0 h n nd, upd_grow n, .lst upd_same (RepL.mono (upd_grow n) l)⟩
  | bl xs => cases e
  | oK xs => cases e
  | bK xs => cases e
  | oT xs => cases e
  | bT xs => cases e
  | drw => cases e
/-- the datum as it stands, a list of a local too -/
def R.datA : R → Option D
  | .im d => some d
  | .ol xs => some (.list xs)
  | .bl xs => some (.list xs)
  | _ => none
theorem RepR.dp (le : Sub F1 H1) (q : RepR K w H F1 H1 v r) {d : D} (e : r.datA = some d) (hc : d.canLay0 = true) : Dp K H1 v d := by
  cases r with
  | im d' =>
    have z : d' = d := Option.some.inj e
    subst z
    exact (RepD.mono le q).dp hc
  | ol xs =>
    have z : PyData.list xs = d := Option.some.inj e
    subst z
    obtain ⟨p, vs, rfl, h0, h, n, nd, l⟩ := q
    exact .lst (SqL.of h) ((RepL.mono le l).dp (by rw [PyData.canLay0] at hc; exact hc))
  | bl xs =>
    have z : PyData.list xs = d := Option.some.inj e
    subst z
    obtain ⟨p, vs, rfl, h, n, nd, l⟩ := q
    exact .lst (SqL.of h) ((RepL.mono le l).dp (by rw [PyData.canLay0] at hc; exact hc))
  | oK xs => cases e
  | bK xs => cases e
  | oT xs => cases e
  | bT xs => cases e
  | drw => cases e
theorem RepR.list (le : Sub F1 H1) (q : RepR K w H F1 H1 v r) {xs : List D} (e : r.lst = some xs) : ∃ p vs, v = .ref p ∧ SqL K H1 p vs ∧ RepL K F1 vs xs := by
  cases r with
  | im d' =>
    cases d' with
    | list ys =>
      have z : ys = xs := Option.some.inj e
      subst z
      cases q with
      | lst h l => exact ⟨_, _, rfl, .inl (.inl (le _ _ h)), l⟩
    | _ => cases e
  | ol ys =>
    have z : ys = xs := Option.some.inj e
    subst z
    obtain ⟨p, vs, rfl, h0, h, n, nd, l⟩ := q
    exact ⟨p, vs, rfl, SqL.of h, l⟩
  | bl ys =>
    have z : ys = xs := Option.some.inj e
    subst z
    obtain ⟨p, vs, rfl, h, n, nd, l⟩ := q
    exact ⟨p, vs, rfl, SqL.of h, l⟩
  | oK xs => cases e
  | bK xs => cases e
  | oT xs => cases e
  | bT xs => cases e
  | drw => cases e
theorem RepR.tuple (le : Sub F1 H1) (q : RepR K w H F1 H1 v r) {xs : List D} (e : r.tup = some xs) : ∃ p vs, v = .ref p ∧ F1 p = some (.tup vs) ∧ RepL K F1 vs xs := by
  cases r with
  | im d' =>
    cases d' with
    | tuple ys =>
      have z : ys = xs := Option.some.inj e
      subst z
      cases q with
      | tup h l => exact ⟨_, _, rfl, h, l⟩
    | _ => cases e
  | _ => cases e
end
end DW
set_option Elab.async false
set_option linter.all false
set_option maxRecDepth 100000
set_option maxHeartbeats 4000000
namespace DW
open PySem PySem.Spec L2

/-! ### judgements on expressions -/
/-- an exception: its class, its fields -/
structure DX where
  C : Addr
  fs : List (Str × D)
def RepX (K : PySem.W.Frag) (F' H' : Hp) (x : DX) (cls : Value) (d : Option Addr) : Prop :=
  cls = .ref x.C ∧ (x.fs ≠ [] → ∃ dd vs, d = some dd ∧ H' dd = some (.xd vs) ∧ Paired (fun (p : Str × V) (q : Str × D) => p.1 = q.1 ∧ RepD K F' p.2 q.2) vs x.fs)
/-- an expression's data reading -/
abbrev WE' := DEnv → (R → Prop) → (DX → Prop) → Prop
abbrev WT := DEnv → (Bool → Prop) → (DX → Prop) → Prop
abbrev WA := DEnv → (List R → Prop) → (DX → Prop) → Prop

def xok (K : PySem.W.Frag) (w : Option Dw) (W : WX) (F H : Hp) (σ : L2.St) (PX : DX → Prop) : Prop :=
  ∀ x F' H' cls d, Ext w F H F' H' → RepX K F' H' x cls d → PX x → W cls d σ H'
def dT (K : PySem.W.Frag) (G : Gd) (W : WX) (we : WE') : TE := fun σ H Q => ∃ F δ P PX, RepS K G F H σ δ ∧ we δ P PX ∧
  (∀ v F' H' r, Ext G.w F H F' H' → RepR K G.w H F' H' v r → P r → Q v H') ∧ xok K G.w W F H σ PX
def dTT (K : PySem.W.Frag) (G : Gd) (W : WX) (wt : WT) : TT := fun σ H Q => ∃ F δ P PX, RepS K G F H σ δ ∧ wt δ P PX ∧
  (∀ b F' H', Ext G.w F H F' H' → P b → Q b H') ∧ xok K G.w W F H σ PX
/-- an argument list: each result is as it was when it was made, new lists are not frozen -/
inductive RepRs (K : PySem.W.Frag) (w : Option Dw) (H F' H' : Hp) : List V → List R → Prop where
  | nil : RepRs K w H F' H' [] []
  | cons {v r vs rs} : RepR K w H F' H' v r → RepRs K w H F' H' vs rs → RepRs K w H F' H' (v :: vs) (r :: rs)
def dTA (K : PySem.W.Frag) (G : Gd) (W : WX) (wa : WA) : TA := fun σ H Q => ∃ F δ P PX, RepS K G F H σ δ ∧ wa δ P PX ∧
  (∀ vs F' H' rs, Ext G.w F H F' H' → RepRs K G.w H F' H' vs rs → P rs → Q vs H') ∧ xok K G.w W F H σ PX

abbrev DE (X : Cx) (G : Gd) (W : WX) (e : Expr) (we : WE') : Prop := PE X e (dT X.K G W we)
abbrev DT (X : Cx) (G : Gd) (W : WX) (e : Expr) (wt : WT) : Prop := PT X e (dTT X.K G W wt)
abbrev DA (X : Cx) (G : Gd) (W : WX) (es : List Expr) (wa : WA) : Prop := PA X es (dTA X.K G W wa)

theorem PE.imp {X : Cx} {e : Expr} {t t' : TE} (h : PE X e t) (i : ∀ σ H Q, t' σ H Q → t σ H Q) : PE X e t' := ⟨fun pins s σ H Q I q => h.run pins s σ H Q I (i σ H Q q)⟩
theorem PT.imp {X : Cx} {e : Expr} {t t' : TT} (h : PT X e t) (i : ∀ σ H Q, t' σ H Q → t σ H Q) : PT X e t' := ⟨fun pins s σ H Q I q => h.run pins s σ H Q I (i σ H Q q)⟩
theorem PA.imp {X : Cx} {e : List Expr} {t t' : TA} (h : PA X e t) (i : ∀ σ H Q, t' σ H Q → t σ H Q) : PA X e t' := ⟨fun pos pins s σ H Q I q => h.run pos pins s σ H Q I (i σ H Q q)⟩

section
variable {K : PySem.W.Frag} {w : Option Dw} {G : Gd} {W : WX} {F F1 F2 H H1 H2 : Hp} {σ : L2.St} {δ : DEnv}
theorem xok.to {PX : DX → Prop} (x : xok K w W F H σ PX) (y : Ext w F H F1 H1) : xok K w W F1 H1 σ PX := fun e F' H' cls d z r p => x e F' H' cls d (y.trans z) r p
theorem RepRs.to {vs rs} (q : RepRs K w H F1 H1 vs rs) (x : Ext w F1 H1 F2 H2) : RepRs K w H F2 H2 vs rs := by
  induction q with
  | nil => exact .nil
  | cons r _ ih => exact .cons (r.to x) ih
theorem RepRs.back {vs rs} (q : RepRs K w H1 F2 H2 vs rs) (x : Ext w F H F1 H1) : RepRs K w H F2 H2 vs rs := by
  induction q with
  | nil => exact .nil
  | cons r _ ih => exact .cons (r.back x) ih
/-- the next expression's reading from where the first one ended -/
theorem dT.next {we : WE'} {P : R → Prop} {PX : DX → Prop} {Q : VK} (S : RepS K G F H σ δ) (x : Ext G.w F H F1 H1) (xk : xok K G.w W F H σ PX) (h : we δ P PX)
    (k : ∀ v F' H' r, Ext G.w F1 H1 F' H' → RepR K G.w H1 F' H' v r → P r → Q v H') : dT K G W we σ H1 Q :=
  ⟨F1, δ, P, PX, S.to x, h, k, xk.to x⟩
theorem dTA.next {we : WA} {P : List R → Prop} {PX : DX → Prop} {Q : List V → Hp → Prop} (S : RepS K G F H σ δ) (x : Ext G.w F H F1 H1) (xk : xok K G.w W F H σ PX) (h : we δ P PX)
    (k : ∀ v F' H' r, Ext G.w F1 H1 F' H' → RepRs K G.w H1 F' H' v r → P r → Q v H') : dTA K G W we σ H1 Q :=
  ⟨F1, δ, P, PX, S.to x, h, k, xk.to x⟩
end

/-! ### names, constants -/
def wV (i : Nat) : WE' := fun δ P _ => ∃ s, δ[i]? = some (some s) ∧ P s.read
def wC (d : D) : WE' := fun _ P _ => P (.im d)
section
variable {X : Cx} {G : Gd} {W : WX} {e a b : Expr} {wa wb : WE'} {pos : Pos}
theorem RepSV.read {K : PySem.W.Frag} {w : Option Dw} {F H : Hp} {v : V} {s : SV} (r : RepSV K w F H v s) : RepR K w H F H v s.read := by
  cases s with
  | im d => exact r
  | ol xs => obtain ⟨p, vs, e, q⟩ := r; exact ⟨p, vs, e, q⟩
  | oK xs => obtain ⟨p, vs, e, q⟩ := r; exact ⟨p, vs, e, q⟩
  | oT xs => obtain ⟨p, vs, e, q⟩ := r; exact ⟨p, vs, e, q⟩
  | drw => exact r
theorem de_var {i : Nat} (h : PE X e (tVar i)) : DE X G W e (wV i) := PE.imp h fun σ H Q ⟨F, δ, P, PX, S, ⟨s, e1, p⟩, k, xk⟩ => by
  obtain ⟨v, e2, r⟩ := S.slot i s e1
  exact ⟨v, e2, k v F H _ S.ext.stay r.read p⟩
theorem de_con {v : V} {d : D} (h : PE X e (tC v)) (r : ∀ F, RepD X.K F v d) : DE X G W e (wC d) := PE.imp h fun σ H Q ⟨F, δ, P, PX, S, p, k, xk⟩ => k v F H (.im d) S.ext.stay (r F) p
theorem de_int {i j} : DE X G W (.Constant (.int i) j pos) (wC (.int i)) := de_con pe_int fun _ => .int i
theorem de_bl {b j} : DE X G W (.Constant (.bool b) j pos) (wC (.bool b)) := de_con pe_bl fun _ => .bl b
theorem de_non {j} : DE X G W (.Constant .none j pos) (wC .none) := de_con pe_non fun _ => .non
theorem de_str {x j} : DE X G W (.Constant (.str x) j pos) (wC (.str x)) := de_con pe_str fun _ => .str x

/-! ### operators -/
/-- an operation on results -/
abbrev KO := R → R → (R → Prop) → Prop
def wOp (k : KO) (wa wb : WE') : WE' := fun δ P PX => wa δ (fun r1 => wb δ (fun r2 => k r1 r2 P) PX) PX
/-- r is good enough for k -/
def OpD (K : PySem.W.Frag) (r : R2) (k : KO) : Prop := ∀ (w : Option Dw) (H0 F H : Hp) (x y : V) (r1 r2 : R) (P : R → Prop) (Q : VK), Ext w F H F H → RepR K w H0 F H x r1 → RepR K w H0 F H y r2 → k r1 r2 P →
  (∀ v F' H' r, Ext w F H F' H' → RepR K w H F' H' v r → P r → Q v H') → r x y H Q
theorem tOp_of {K : PySem.W.Frag} {r : R2} {k : KO} (hk : OpD K r k) {σ : L2.St} {H : Hp} {Q : VK} (h : dT K G W (wOp k wa wb) σ H Q) : tOp r (dT K G W wa) (dT K G W wb) σ H Q := by
  obtain ⟨F, δ, P, PX, S, p, q, xk⟩ := h
  refine ⟨F, δ, _, PX, S, p, fun x F1 H1 r1 x1 q1 p1 => ?_, xk⟩
  refine dT.next S x1 xk p1 fun y F2 H2 r2 x2 q2 p2 => ?_
  refine hk G.w H F2 H2 x y r1 r2 P Q x2.stay (q1.to x2) (q2.back x1) p2 fun v F' H' r x3 q3 p3 => q v F' H' r ((x1.trans x2).trans x3) (q3.back (x1.trans x2)) p3
theorem de_op {op : Operator} {r : R2} {k : KO} (ho : OpR X (binaryOp op) r) (hk : OpD X.K r k) (ha : DE X G W a wa) (hb : DE X G W b wb) : DE X G W (.BinOp a op b pos) (wOp k wa wb) :=
  PE.imp (pe_op ho ha hb) fun _ _ _ h => tOp_of hk h
theorem de_cmp {op : CmpOp} {r : R2} {k : KO} (ho : OpR X (compareOp op) r) (hk : OpD X.K r k) (ha : DE X G W a wa) (hb : DE X G W b wb) (hm : behindInMarks op b = false) : DE X G W (.Compare a [op] [b] pos) (wOp k wa wb) :=
  PE.imp (pe_cmpR ho ha hb hm) fun _ _ _ h => tOp_of hk h
/-- a test of a bool result -/
def wB (we : WE') : WT := fun δ P PX => we δ (fun r => ∃ b, r = .im (.bool b) ∧ P b) PX
theorem tB_of {K : PySem.W.Frag} {we : WE'} {σ : L2.St} {H : Hp} {Q : Bool → Hp → Prop} (h : dTT K G W (wB we) σ H Q) : dT K G W we σ H fun x H1 => ∃ c, x = .bl c ∧ Q c H1 := by
  obtain ⟨F, δ, P, PX, S, p, q, xk⟩ := h
  refine ⟨F, δ, _, PX, S, p, fun x F1 H1 r1 x1 q1 ⟨b, e, pb⟩ => ?_, xk⟩
  subst e
  cases q1
  exact ⟨b, rfl, q b F1 H1 x1 pb⟩
theorem dt_cmp {op : CmpOp} {r : R2} {k : KO} (ho : OpR X (compareOp op) r) (hk : OpD X.K r k) (ha : DE X G W a wa) (hb : DE X G W b wb) (hm : behindInMarks op b = false) : DT X G W (.Compare a [op] [b] pos) (wB (wOp k wa wb)) :=
  PT.imp (pt_cmpR ho ha hb hm) fun σ H Q h => by
    obtain ⟨F, δ, P, PX, S, p, q, xk⟩ := tB_of h
    exact tOp_of hk ⟨F, δ, P, PX, S, p, q, xk⟩
theorem dt_val {we : WE'} (h : DE X G W e we) (he : ∀ whole, isTrue e X.env whole = (do let v ← whole; standAt e.pos; holding [v] (truthy v)) := by intro _; rfl) : DT X G W e (wB we) :=
  PT.imp (pt_val h he) fun σ H Q h => tB_of h

/-! ### the operations -/
def kI (f : Int → Int → D) : KO := fun r1 r2 P => ∃ i j, r1 = .im (.int i) ∧ r2 = .im (.int j) ∧ P (.im (f i j))
theorem opd_I {K : PySem.W.Frag} {g : Int → Int → V} {f : Int → Int → D} (h : ∀ F i j, RepD K F (g i j) (f i j)) : OpD K (rI0 g) (kI f) := by
  intro w H0 F H x y r1 r2 P Q x0 q1 q2 ⟨i, j, e1, e2, p⟩ k
  subst e1; subst e2
  cases q1; cases q2
  exact ⟨i, j, rfl, rfl, k _ F H (.im (f i j)) x0 (h F i j) p⟩
def kIC (C : Int → Int → Prop) (f : Int → Int → D) : KO := fun r1 r2 P => ∃ i j, r1 = .im (.int i) ∧ r2 = .im (.int j) ∧ C i j ∧ P (.im (f i j))
theorem opd_IC {K : PySem.W.Frag} {C : Int → Int → Prop} {g : Int → Int → V} {f : Int → Int → D} (h : ∀ F i j, RepD K F (g i j) (f i j)) : OpD K (rI C g) (kIC C f) := by
  intro w H0 F H x y r1 r2 P Q x0 q1 q2 ⟨i, j, e1, e2, c, p⟩ k
  subst e1; subst e2
  cases q1; cases q2
  exact ⟨i, j, rfl, rfl, c, k _ F H (.im (f i j)) x0 (h F i j) p⟩
theorem OpD.or {K : PySem.W.Frag} {r r' : R2} {k k' : KO} (h : OpD K r k) (h' : OpD K r' k') : OpD K (fun x y H Q => r x y H Q ∨ r' x y H Q) (fun a b P => k a b P ∨ k' a b P) := by
  intro w H0 F H x y r1 r2 P Q x0 q1 q2 hk c
  rcases hk with hk | hk
  · exact .inl (h w H0 F H x y r1 r2 P Q x0 q1 q2 hk c)
  · exact .inr (h' w H0 F H x y r1 r2 P Q x0 q1 q2 hk c)
theorem OpD.imp {K : PySem.W.Frag} {r : R2} {k k' : KO} (h : OpD K r k) (i : ∀ a b P, k' a b P → k a b P) : OpD K r k' := fun w H0 F H x y r1 r2 P Q x0 q1 q2 hk c => h w H0 F H x y r1 r2 P Q x0 q1 q2 (i _ _ _ hk) c

def kLt : KO := kI fun i j => .bool (decide (i < j))
def kLe : KO := kI fun i j => .bool (decide (i ≤ j))
def kGt : KO := kI fun i j => .bool (decide (j < i))
def kGe : KO := kI fun i j => .bool (decide (j ≤ i))
def kSub : KO := kI fun i j => .int (i - j)
theorem opd_lt {K : PySem.W.Frag} : OpD K (rI0 fun i j => .bl (decide (i < j))) kLt := opd_I fun _ _ _ => .bl _
theorem opd_le {K : PySem.W.Frag} : OpD K (rI0 fun i j => .bl (decide (i ≤ j))) kLe := opd_I fun _ _ _ => .bl _
theorem opd_gt {K : PySem.W.Frag} : OpD K (rI0 fun i j => .bl (decide (j < i))) kGt := opd_I fun _ _ _ => .bl _
theorem opd_ge {K : PySem.W.Frag} : OpD K (rI0 fun i j => .bl (decide (j ≤ i))) kGe := opd_I fun _ _ _ => .bl _
theorem opd_sub {K : PySem.W.Frag} : OpD K (rI0 fun i j => .int (i - j)) kSub := opd_I fun _ _ _ => .int _
theorem opd_addI {K : PySem.W.Frag} : OpD K (rI0 fun i j => .int (i + j)) (kI fun i j => .int (i + j)) := opd_I fun _ _ _ => .int _
/-- two texts -/
def kCatS : KO := fun r1 r2 P => ∃ i j, r1 = .im (.str i) ∧ r2 = .im (.str j) ∧ i.length + j.length ≤ sizeLine ∧ P (.im (.str (i ++ j)))
theorem opd_addS {K : PySem.W.Frag} : OpD K (fun x y H Q => ∃ i j, x = .str i ∧ y = .str j ∧ i.length + j.length ≤ sizeLine ∧ Q (.str (i ++ j)) H) kCatS := by
  intro w H0 F H x y r1 r2 P Q x0 q1 q2 ⟨i, j, e1, e2, c, p⟩ k
  subst e1; subst e2
  cases q1; cases q2
  exact ⟨i, j, rfl, rfl, c, k _ F H (.im _) x0 (.str _) p⟩
end
end DW
set_option Elab.async false
set_option linter.all false
set_option maxRecDepth 100000
set_option maxHeartbeats 4000000
namespace DW
open PySem PySem.Spec L2

def R.own : R → Option (List D)
  | .im (.list xs) => some xs
  | .ol xs => some xs
  | .bl xs => some xs
  | _ => none
section
variable {K : PySem.W.Frag} {w : Option Dw} {F F1 F2 H H1 H2 : Hp} {v : V} {r : R}
theorem RepR.owns (le : Sub F1 H1) (q : RepR K w H F1 H1 v r) {xs : List D} (e : r.own = some xs) : ∃ p vs, v = .ref p ∧ H1 p = some (.lst vs) ∧ RepL K F1 vs xs := by
  cases r with
  | ol ys =>
    have z : ys = xs := Option.some.inj e
    subst z
    obtain ⟨p, vs, rfl, h0, h, n, nd, l⟩ := q
    exact ⟨p, vs, rfl, h, l⟩
  | bl ys =>
    have z : ys = xs := Option.some.inj e
    subst z
    obtain ⟨p, vs, rfl, h, n, nd, l⟩ := q
    exact ⟨p, vs, rfl, h, l⟩
  | im d' =>
    cases d' with
    | list ys =>
      have z : ys = xs := Option.some.inj e
      subst z
      cases q with
      | lst h l => exact ⟨_, _, rfl, le _ _ h, l⟩
    | _ => cases e
  | _ => cases e
/-- a new list -/
theorem new_list (x0 : Ext w F H F H) {p : Addr} (hp : H p = none) {vs : List V} {xs : List D} (l : RepL K F vs xs) : Ext w F H F (upd H p (.lst vs)) ∧ RepR K w H F (upd H p (.lst vs)) (.ref p) (.ol xs) := by
  refine ⟨x0.own hp, p, vs, rfl, hp, upd_same, x0.le.none hp, fun d e z => ?_, l⟩
  obtain ⟨i, r, c, h, _⟩ := (x0.dr d e).at_
  rw [z, hp] at h; cases h
theorem new_tup (x0 : Ext w F H F H) {p : Addr} (hp : H p = none) {vs : List V} {xs : List D} (l : RepL K F vs xs) : Ext w F H (upd F p (.tup vs)) (upd H p (.tup vs)) ∧ RepR K w H (upd F p (.tup vs)) (upd H p (.tup vs)) (.ref p) (.im (.tuple xs)) :=
  ⟨x0.laid hp, .tup upd_same (RepL.mono (upd_grow (x0.le.none hp)) l)⟩

/-! ### + -/
def kAdd : KO := fun r1 r2 P => match r1, r2 with
  | .im (.int i), .im (.int j) => P (.im (.int (i + j)))
  | .im (.str a), .im (.str b) => a.length + b.length ≤ sizeLine ∧ P (.im (.str (a ++ b)))
  | .im (.tuple xs), .im (.tuple ys) => xs.length + ys.length ≤ sizeLine ∧ P (.im (.tuple (xs ++ ys)))
  | r1, r2 => ∃ xs ys, r1.own = some xs ∧ r2.own = some ys ∧ xs.length + ys.length ≤ sizeLine ∧ P (.ol (xs ++ ys))
def kCatL : KO := fun r1 r2 P => ∃ xs ys, r1.own = some xs ∧ r2.own = some ys ∧ xs.length + ys.length ≤ sizeLine ∧ P (.ol (xs ++ ys))
theorem opd_catL : OpD K rCat kCatL := by
  intro w H0 F H x y r1 r2 P Q x0 q1 q2 ⟨xs, ys, e1, e2, hl, p⟩ k
  obtain ⟨a, vs, rfl, ha, la⟩ := q1.owns x0.le e1
  obtain ⟨b, us, rfl, hb, lb⟩ := q2.owns x0.le e2
  refine ⟨a, b, vs, us, rfl, rfl, ha, hb, by rw [RepL.length la, RepL.length lb]; exact hl, fun q hq => ?_⟩
  obtain ⟨x1, r⟩ := new_list (K := K) x0 hq (RepL.append la lb)
  exact k _ _ _ _ x1 r p
def kCatT : KO := fun r1 r2 P => ∃ xs ys, r1 = .im (.tuple xs) ∧ r2 = .im (.tuple ys) ∧ xs.length + ys.length ≤ sizeLine ∧ P (.im (.tuple (xs ++ ys)))
theorem opd_catT : OpD K (rCatA K) kCatT := by
  intro w H0 F H x y r1 r2 P Q x0 q1 q2 ⟨xs, ys, e1, e2, hl, p⟩ k
  subst e1; subst e2
  obtain ⟨a, vs, rfl, ha, la⟩ := RepR.tuple (K := K) (w := w) (H := H0) x0.le q1 (xs := xs) rfl
  obtain ⟨b, us, rfl, hb, lb⟩ := RepR.tuple (K := K) (w := w) (H := H0) x0.le q2 (xs := ys) rfl
  have ha' : SqT K H a vs := .inl (.inl (x0.le _ _ ha))
  have hb' : SqT K H b us := .inl (.inl (x0.le _ _ hb))
  refine ⟨a, b, vs, us, rfl, rfl, ha', hb', by rw [RepL.length la, RepL.length lb]; exact hl, fun e => ?_, fun _ e => ?_, fun _ _ t hp => ?_⟩
  · subst e
    cases la
    exact k _ F H (.im (.tuple ys)) x0 q2 p
  · subst e
    cases lb
    rw [List.append_nil] at p
    exact k _ F H (.im (.tuple xs)) x0 q1 p
  · obtain ⟨x1, r⟩ := new_tup (K := K) x0 hp (RepL.append la lb)
    exact k _ _ _ _ x1 r p
theorem kAdd_or : ∀ a b P, kAdd a b P → ((kI fun i j => .int (i + j)) a b P ∨ kCatS a b P) ∨ kCatL a b P ∨ kCatT a b P := by
  intro a b P h
  unfold kAdd at h
  split at h
  · exact .inl (.inl ⟨_, _, rfl, rfl, h⟩)
  · exact .inl (.inr ⟨_, _, rfl, rfl, h⟩)
  · exact .inr (.inr ⟨_, _, rfl, rfl, h⟩)
  · exact .inr (.inl h)
section
variable {X : Cx} {G : Gd} {W : WX} {e a b c : Expr} {wa wb wc : WE'} {pos : Pos}
theorem de_add (ha : DE X G W a wa) (hb : DE X G W b wb) : DE X G W (.BinOp a .Add b pos) (wOp kAdd wa wb) :=
  de_op ((op_add.or op_add_str).or (op_cat.or op_catA)) (((opd_addI.or opd_addS).or (opd_catL.or opd_catT)).imp kAdd_or) ha hb
theorem de_sub (ha : DE X G W a wa) (hb : DE X G W b wb) : DE X G W (.BinOp a .Sub b pos) (wOp kSub wa wb) := de_op op_sub opd_sub ha hb
def kMod : KO := kIC (fun _ j => 0 < j) fun i j => .int (i % j)
theorem de_mod (ha : DE X G W a wa) (hb : DE X G W b wb) : DE X G W (.BinOp a .Mod b pos) (wOp kMod wa wb) := de_op op_mod (opd_IC fun _ _ _ => .int _) ha hb
def kMul : KO := kIC CMul fun i j => .int (i * j)
theorem de_mul (ha : DE X G W a wa) (hb : DE X G W b wb) : DE X G W (.BinOp a .Mult b pos) (wOp kMul wa wb) := de_op op_mul (opd_IC fun _ _ _ => .int _) ha hb

/-! ### comparisons -/
theorem nb {op : CmpOp} (b : Expr) (h : op ≠ .In) (h2 : op ≠ .NotIn) : behindInMarks op b = false := nobehind b h h2
theorem de_lt (ha : DE X G W a wa) (hb : DE X G W b wb) : DE X G W (.Compare a [.Lt] [b] pos) (wOp kLt wa wb) := de_cmp op_lt opd_lt ha hb (nb _ (by decide) (by decide))
theorem de_le (ha : DE X G W a wa) (hb : DE X G W b wb) : DE X G W (.Compare a [.LtE] [b] pos) (wOp kLe wa wb) := de_cmp op_le opd_le ha hb (nb _ (by decide) (by decide))
theorem de_gt (ha : DE X G W a wa) (hb : DE X G W b wb) : DE X G W (.Compare a [.Gt] [b] pos) (wOp kGt wa wb) := de_cmp op_gt opd_gt ha hb (nb _ (by decide) (by decide))
theorem de_ge (ha : DE X G W a wa) (hb : DE X G W b wb) : DE X G W (.Compare a [.GtE] [b] pos) (wOp kGe wa wb) := de_cmp op_ge opd_ge ha hb (nb _ (by decide) (by decide))
theorem dt_lt (ha : DE X G W a wa) (hb : DE X G W b wb) : DT X G W (.Compare a [.Lt] [b] pos) (wB (wOp kLt wa wb)) := dt_cmp op_lt opd_lt ha hb (nb _ (by decide) (by decide))
theorem dt_le (ha : DE X G W a wa) (hb : DE X G W b wb) : DT X G W (.Compare a [.LtE] [b] pos) (wB (wOp kLe wa wb)) := dt_cmp op_le opd_le ha hb (nb _ (by decide) (by decide))
theorem dt_gt (ha : DE X G W a wa) (hb : DE X G W b wb) : DT X G W (.Compare a [.Gt] [b] pos) (wB (wOp kGt wa wb)) := dt_cmp op_gt opd_gt ha hb (nb _ (by decide) (by decide))
theorem dt_ge (ha : DE X G W a wa) (hb : DE X G W b wb) : DT X G W (.Compare a [.GtE] [b] pos) (wB (wOp kGe wa wb)) := dt_cmp op_ge opd_ge ha hb (nb _ (by decide) (by decide))
/-- data that can be compared: no dicts, no ints beside bools at the places -/
def kEq : KO := fun r1 r2 P => ∃ d e, r1.datA = some d ∧ r2.datA = some e ∧ SeqAt.shaped d = true ∧ SeqAt.shaped e = true ∧ P (.im (.bool (PyData.eqv d e)))
def kNe : KO := fun r1 r2 P => ∃ d e, r1.datA = some d ∧ r2.datA = some e ∧ SeqAt.shaped d = true ∧ SeqAt.shaped e = true ∧ P (.im (.bool (!PyData.eqv d e)))
theorem opd_eq : OpD K (rEqD K) kEq := by
  intro w H0 F H x y r1 r2 P Q x0 q1 q2 ⟨d, e, e1, e2, s1, s2, p⟩ k
  exact ⟨d, e, q1.dp x0.le e1 (SeqAt.canLay_of_shaped s1), q2.dp x0.le e2 (SeqAt.canLay_of_shaped s2), s1, s2, k _ F H (.im _) x0 (.bl _) p⟩
theorem opd_ne : OpD K (rNeD K) kNe := by
  intro w H0 F H x y r1 r2 P Q x0 q1 q2 ⟨d, e, e1, e2, s1, s2, p⟩ k
  exact ⟨d, e, q1.dp x0.le e1 (SeqAt.canLay_of_shaped s1), q2.dp x0.le e2 (SeqAt.canLay_of_shaped s2), s1, s2, k _ F H (.im _) x0 (.bl _) p⟩
theorem de_eq (hu : X.A.units + 64 < cLine) (ha : DE X G W a wa) (hb : DE X G W b wb) : DE X G W (.Compare a [.Eq] [b] pos) (wOp kEq wa wb) := de_cmp (op_eqD hu) opd_eq ha hb (nb _ (by decide) (by decide))
theorem de_ne (hu : X.A.units + 64 < cLine) (ha : DE X G W a wa) (hb : DE X G W b wb) : DE X G W (.Compare a [.NotEq] [b] pos) (wOp kNe wa wb) := de_cmp (op_neD hu) opd_ne ha hb (nb _ (by decide) (by decide))
theorem dt_eq (hu : X.A.units + 64 < cLine) (ha : DE X G W a wa) (hb : DE X G W b wb) : DT X G W (.Compare a [.Eq] [b] pos) (wB (wOp kEq wa wb)) := dt_cmp (op_eqD hu) opd_eq ha hb (nb _ (by decide) (by decide))
theorem dt_ne (hu : X.A.units + 64 < cLine) (ha : DE X G W a wa) (hb : DE X G W b wb) : DT X G W (.Compare a [.NotEq] [b] pos) (wB (wOp kNe wa wb)) := dt_cmp (op_neD hu) opd_ne ha hb (nb _ (by decide) (by decide))
/-- None -/
def kIsN : KO := fun r1 r2 P => ∃ d, r1 = .im d ∧ r2 = .im .none ∧ P (.im (.bool (match d with | .none => true | _ => false)))
def kNotN : KO := fun r1 r2 P => ∃ d, r1 = .im d ∧ r2 = .im .none ∧ P (.im (.bool (match d with | .none => false | _ => true)))
theorem opd_isN : OpD K (fun x y H Q => y = .non ∧ Q (.bl (decide (x = .non))) H) kIsN := by
  intro w H0 F H x y r1 r2 P Q x0 q1 q2 ⟨d, e1, e2, p⟩ k
  subst e1; subst e2
  cases q2
  refine ⟨rfl, k _ F H (.im _) x0 ?_ p⟩
  cases q1 <;> exact .bl _
theorem opd_notN : OpD K (fun x y H Q => y = .non ∧ Q (.bl (!decide (x = .non))) H) kNotN := by
  intro w H0 F H x y r1 r2 P Q x0 q1 q2 ⟨d, e1, e2, p⟩ k
  subst e1; subst e2
  cases q2
  refine ⟨rfl, k _ F H (.im _) x0 ?_ p⟩
  cases q1 <;> exact .bl _
theorem de_isN (ha : DE X G W a wa) (hb : DE X G W b wb) : DE X G W (.Compare a [.Is] [b] pos) (wOp kIsN wa wb) := de_cmp op_isN opd_isN ha hb (nb _ (by decide) (by decide))
theorem de_notN (ha : DE X G W a wa) (hb : DE X G W b wb) : DE X G W (.Compare a [.IsNot] [b] pos) (wOp kNotN wa wb) := de_cmp op_notN opd_notN ha hb (nb _ (by decide) (by decide))

/-! ### in: a list of data; a tuple, a list of flat things; one sign in a text -/
def flatD : D → Bool
  | .none => true
  | .bool _ => true
  | .int _ => true
  | .str _ => true
  | _ => false
def R.seq : R → Option (List D)
  | .im (.list xs) => some xs
  | .im (.tuple xs) => some xs
  | .ol xs => some xs
  | .bl xs => some xs
  | _ => none
def inD (x : D) (xs : List D) : Bool := xs.any fun z => PyData.eqv z x
def kInL (neg : Bool) : KO := fun r1 r2 P => ∃ d ds, r1.datA = some d ∧ r2.lst = some ds ∧ SeqAt.shaped d = true ∧ SeqAt.shaped (.list ds) = true ∧ P (.im (.bool (if neg then !inD d ds else inD d ds)))
theorem RepR.dpl {r : R} {H0 : Hp} {v : V} (le : Sub F1 H1) (q : RepR K w H0 F1 H1 v r) {xs : List D} (e : r.lst = some xs) (hc : PyData.canLay0 (.list xs) = true) : Dp K H1 v (.list xs) := by
  obtain ⟨p, vs, rfl, h, l⟩ := q.list le e
  exact .lst h ((RepL.mono le l).dp (by rw [PyData.canLay0] at hc; exact hc))
theorem opd_inL : OpD K (rInD K) (kInL false) := by
  intro w H0 F H x y r1 r2 P Q x0 q1 q2 ⟨d, ds, e1, e2, s1, s2, p⟩ k
  exact ⟨d, ds, q1.dp x0.le e1 (SeqAt.canLay_of_shaped s1), q2.dpl x0.le e2 (SeqAt.canLay_of_shaped s2), s1, s2, k _ F H (.im _) x0 (.bl _) p⟩
theorem opd_notInL : OpD K (rNotInD K) (kInL true) := by
  intro w H0 F H x y r1 r2 P Q x0 q1 q2 ⟨d, ds, e1, e2, s1, s2, p⟩ k
  exact ⟨d, ds, q1.dp x0.le e1 (SeqAt.canLay_of_shaped s1), q2.dpl x0.le e2 (SeqAt.canLay_of_shaped s2), s1, s2, k _ F H (.im _) x0 (.bl _) p⟩
/-- ints in a tuple of ints -/
def kInT (neg : Bool) : KO := fun r1 r2 P => ∃ (i : Int) (ns : List Int), r1 = .im (.int i) ∧ r2 = .im (.tuple (ns.map PyData.int)) ∧ P (.im (.bool (if neg then !decide (i ∈ ns) else decide (i ∈ ns))))
theorem RepL.isInts : ∀ {ns : List Int} {vs : List V}, RepL K F vs (ns.map PyData.int) → vs = ns.map V.int
  | [], _, h => by cases h; rfl
  | n :: r, _, h => by
    rw [List.map_cons] at h
    cases h with
    | cons a t => cases a; rw [RepL.isInts t]; rfl
theorem inV_ints {i : Int} {ns : List Int} : inV (.int i) (ns.map V.int) = decide (i ∈ ns) := by
  unfold inV
  induction ns with
  | nil => rfl
  | cons n r ih =>
    rw [List.map_cons, List.any_cons, ih]
    have e : eqV (.int n) (.int i) = decide (n = i) := by
      first | rfl | (simp [eqV])
    rw [e]
    by_cases h : n = i
    · subst h; simp
    · have h' : ¬ i = n := fun z => h z.symm
      simp [h, h']
theorem flat_ints {ns : List Int} : (ns.map V.int).all flatV = true := by
  rw [List.all_map]
  exact List.all_eq_true.mpr fun _ _ => rfl
theorem opd_inT : OpD K (rIn K false) (kInT false) := by
  intro w H0 F H x y r1 r2 P Q x0 q1 q2 ⟨i, ns, e1, e2, p⟩ k
  subst e1; subst e2
  cases q1
  obtain ⟨b, us, rfl, hb, lb⟩ := RepR.tuple (K := K) (w := w) (H := H0) x0.le q2 rfl
  rw [RepL.isInts lb] at hb
  refine ⟨b, _, rfl, .inr (.inl (.inl (x0.le _ _ hb))), rfl, flat_ints, ?_⟩
  rw [inV_ints]
  exact k _ F H (.im _) x0 (.bl _) p
theorem opd_notInT : OpD K (rIn K true) (kInT true) := by
  intro w H0 F H x y r1 r2 P Q x0 q1 q2 ⟨i, ns, e1, e2, p⟩ k
  subst e1; subst e2
  cases q1
  obtain ⟨b, us, rfl, hb, lb⟩ := RepR.tuple (K := K) (w := w) (H := H0) x0.le q2 rfl
  rw [RepL.isInts lb] at hb
  refine ⟨b, _, rfl, .inr (.inl (.inl (x0.le _ _ hb))), rfl, flat_ints, ?_⟩
  rw [inV_ints]
  exact k _ F H (.im _) x0 (.bl _) p
theorem de_inL (hu : X.A.units + 65 < cLine) (ha : DE X G W a wa) (hb : DE X G W b wb) (hm : behindInMarks .In b = false := by rfl) : DE X G W (.Compare a [.In] [b] pos) (wOp (kInL false) wa wb) := de_cmp (op_inD hu) opd_inL ha hb hm
theorem de_notInL (hu : X.A.units + 65 < cLine) (ha : DE X G W a wa) (hb : DE X G W b wb) (hm : behindInMarks .NotIn b = false := by rfl) : DE X G W (.Compare a [.NotIn] [b] pos) (wOp (kInL true) wa wb) := de_cmp (op_notInD hu) opd_notInL ha hb hm
theorem de_inT (ha : DE X G W a wa) (hb : DE X G W b wb) (hm : behindInMarks .In b = false := by rfl) : DE X G W (.Compare a [.In] [b] pos) (wOp (kInT false) wa wb) := de_cmp op_in_seq opd_inT ha hb hm
theorem de_notInT (ha : DE X G W a wa) (hb : DE X G W b wb) (hm : behindInMarks .NotIn b = false := by rfl) : DE X G W (.Compare a [.NotIn] [b] pos) (wOp (kInT true) wa wb) := de_cmp op_notIn_seq opd_notInT ha hb hm
end
end
end DW
set_option Elab.async false
set_option linter.all false
set_option maxRecDepth 100000
set_option maxHeartbeats 4000000
namespace DW
open PySem PySem.Spec L2

section
variable {K : PySem.W.Frag} {w : Option Dw} {F F1 F2 H H1 H2 : Hp} {v : V} {r : R}
theorem RepL.at {vs : List V} {ds : List D} (l : RepL K F vs ds) {i : Int} {d : D} (e : atI ds i = some d) : ∃ v, atI vs i = some v ∧ RepD K F v d := by
  unfold atI at e ⊢
  rw [RepL.length l]
  cases q : ixN ds.length i with
  | none => rw [q] at e; cases e
  | some j =>
    rw [q] at e
    exact RepL.get l e

/-! ### items -/
def kIx : KO := fun r1 r2 P => match r1, r2 with
  | .im (.str s), .im (.int i) => s.length ≤ sizeLine ∧ ∃ c, atI s.cps.toList i = some c ∧ P (.im (.str ⟨#[c]⟩))
  | .im (.tuple xs), .im (.int i) => ∃ d, atI xs i = some d ∧ P (.im d)
  | r1, .im (.int i) => ∃ xs d, r1.lst = some xs ∧ atI xs i = some d ∧ P (.im d)
  | _, _ => False
theorem opd_ix : OpD K (fun x y H Q => (rIxL K x y H Q ∨ rIxT K x y H Q) ∨ rIxS x y H Q) kIx := by
  intro w H0 F H x y r1 r2 P Q x0 q1 q2 h k
  unfold kIx at h
  split at h
  · rename_i s i
    obtain ⟨hs, c, e, p⟩ := h
    cases q1; cases q2
    exact .inr ⟨s, i, c, rfl, rfl, hs, e, k _ F H (.im _) x0 (.str _) p⟩
  · rename_i xs i
    obtain ⟨d, e, p⟩ := h
    cases q2
    obtain ⟨a, vs, rfl, ha, la⟩ := RepR.tuple (K := K) (w := w) (H := H0) x0.le q1 (xs := xs) rfl
    obtain ⟨v, e2, rv⟩ := RepL.at la e
    exact .inl (.inr ⟨a, vs, i, v, rfl, rfl, .inl (.inl (x0.le _ _ ha)), e2, k _ F H (.im d) x0 rv p⟩)
  · rename_i i _ _
    obtain ⟨xs, d, e1, e, p⟩ := h
    cases q2
    obtain ⟨a, vs, rfl, ha, la⟩ := q1.list x0.le e1
    obtain ⟨v, e2, rv⟩ := RepL.at la e
    exact .inl (.inl ⟨a, vs, i, v, rfl, rfl, ha, e2, k _ F H (.im d) x0 rv p⟩)
  · exact h.elim

/-! ### dicts -/
def keyOf : D → Option Key
  | .int i => some (.inl i)
  | .str s => some (.inr s)
  | _ => none
def keysOf : List D → Option (List Key)
  | [] => some []
  | d :: ds => match keyOf d, keysOf ds with
    | some k, some ks => some (k :: ks)
    | _, _ => none
theorem RepD.key {d : D} {k : Key} (q : RepD K F v d) (e : keyOf d = some k) : v = kV k := by
  cases q with
  | int i => cases e; rfl
  | str x => cases e; rfl
  | _ => cases e
theorem RepL.keys : ∀ {ds : List D} {vs : List V} {ks : List Key}, RepL K F vs ds → keysOf ds = some ks → vs = ks.map kV
  | [], _, ks, l, e => by cases l; cases e; rfl
  | d :: ds, _, ks, l, e => by
    cases l with
    | cons a t =>
      unfold keysOf at e
      cases e1 : keyOf d with
      | none => rw [e1] at e; cases e
      | some k =>
        cases e2 : keysOf ds with
        | none => rw [e1, e2] at e; cases e
        | some k2 =>
          rw [e1, e2] at e
          cases e
          rw [RepD.key a e1, RepL.keys t e2]; rfl
theorem RepKV.length {κ : Type} : ∀ {vs : List (κ × V)} {ds : List (κ × D)}, RepKV K F vs ds → vs.length = ds.length
  | _, _, .nil => rfl
  | _, _, .cons _ t => by rw [List.length_cons, List.length_cons, RepKV.length t]
variable {κ : Type} [DecidableEq κ]
def valD (kvs : List (κ × D)) (k : κ) : Option D := (kvs.find? fun kv => decide (kv.1 = k)).map (·.2)
def putD (kvs : List (κ × D)) (k : κ) (v : D) : List (κ × D) :=
  if (kvs.any fun kv => decide (kv.1 = k)) = true then kvs.map (fun kv => if kv.1 = k then (kv.1, v) else kv) else kvs ++ [(k, v)]
theorem RepKV.val {k : κ} : ∀ {vs : List (κ × V)} {ds : List (κ × D)}, RepKV K F vs ds → (valD ds k = none ∧ valV vs k = none) ∨ ∃ d v, valD ds k = some d ∧ valV vs k = some v ∧ RepD K F v d
  | _, _, .nil => .inl ⟨rfl, rfl⟩
  | _, _, .cons (k := k') (v := v') (d := d') (vs := vr) (ds := dr) r t => by
    by_cases h : k' = k
    · exact .inr ⟨d', v', by simp [valD, List.find?_cons, h], valV_pos h, r⟩
    · have e1 : valD ((k', d') :: dr) k = valD dr k := by simp [valD, List.find?_cons, h]
      have e2 : valV ((k', v') :: vr) k = valV vr k := valV_neg h
      rw [e1, e2]
      exact RepKV.val t
theorem RepKV.any {k : κ} : ∀ {vs : List (κ × V)} {ds : List (κ × D)}, RepKV K F vs ds → (vs.any fun kv => decide (kv.1 = k)) = ds.any fun kv => decide (kv.1 = k)
  | _, _, .nil => rfl
  | _, _, .cons r t => by rw [List.any_cons, List.any_cons, RepKV.any t]
theorem RepKV.snoc {k : κ} {v : V} {d : D} (rd : RepD K F v d) : ∀ {vs : List (κ × V)} {ds : List (κ × D)}, RepKV K F vs ds → RepKV K F (vs ++ [(k, v)]) (ds ++ [(k, d)])
  | _, _, .nil => .cons rd .nil
  | _, _, .cons r t => .cons r (RepKV.snoc rd t)
theorem RepKV.mapp {k : κ} {v : V} {d : D} (rd : RepD K F v d) : ∀ {vs : List (κ × V)} {ds : List (κ × D)}, RepKV K F vs ds → RepKV K F (vs.map fun kv => if kv.1 = k then (kv.1, v) else kv) (ds.map fun kv => if kv.1 = k then (kv.1, d) else kv)
  | _, _, .nil => .nil
  | _, _, .cons (k := k') r t => by
    rw [List.map_cons, List.map_cons]
    by_cases h : k' = k
    · simp only [h, if_true]; exact .cons rd (RepKV.mapp rd t)
    · simp only [h, if_false]; exact .cons r (RepKV.mapp rd t)
theorem RepKV.put {k : κ} {v : V} {d : D} {vs : List (κ × V)} {ds : List (κ × D)} (l : RepKV K F vs ds) (rd : RepD K F v d) : RepKV K F (putK vs k v) (putD ds k d) := by
  unfold putK putD
  rw [l.any (k := k)]
  by_cases h : (ds.any fun kv => decide (kv.1 = k)) = true
  · rw [if_pos h, if_pos h]; exact l.mapp rd
  · rw [if_neg h, if_neg h]; exact l.snoc rd

/-- the dict of a result: its pairs by int and text keys, or by tuples of such -/
def R.dK : R → Option (List (Key × D))
  | .oK kvs => some kvs
  | .bK kvs => some kvs
  | _ => none
def R.dT : R → Option (List (List Key × D))
  | .oT kvs => some kvs
  | .bT kvs => some kvs
  | _ => none
theorem RepR.isK (q : RepR K w H F1 H1 v r) {kvs : List (Key × D)} (e : r.dK = some kvs) : ∃ p vs, v = .ref p ∧ H1 p = some (.dK vs) ∧ F1 p = none ∧ RepKV K F1 vs kvs := by
  cases r with
  | oK ys =>
    have z : ys = kvs := Option.some.inj e
    subst z
    obtain ⟨p, vs, rfl, h0, h, n, nd, l⟩ := q
    exact ⟨p, vs, rfl, h, n, l⟩
  | bK ys =>
    have z : ys = kvs := Option.some.inj e
    subst z
    obtain ⟨p, vs, rfl, h, n, nd, l⟩ := q
    exact ⟨p, vs, rfl, h, n, l⟩
  | _ => cases e
theorem RepR.isT (q : RepR K w H F1 H1 v r) {kvs : List (List Key × D)} (e : r.dT = some kvs) : ∃ p vs, v = .ref p ∧ H1 p = some (.dT vs) ∧ F1 p = none ∧ RepKV K F1 vs kvs := by
  cases r with
  | oT ys =>
    have z : ys = kvs := Option.some.inj e
    subst z
    obtain ⟨p, vs, rfl, h0, h, n, nd, l⟩ := q
    exact ⟨p, vs, rfl, h, n, l⟩
  | bT ys =>
    have z : ys = kvs := Option.some.inj e
    subst z
    obtain ⟨p, vs, rfl, h, n, nd, l⟩ := q
    exact ⟨p, vs, rfl, h, n, l⟩
  | _ => cases e
/-- what a dict holds at a key -/
def dGet (r1 r2 : R) (o : Option D) : Prop :=
  (∃ kvs d k, r1.dK = some kvs ∧ r2 = .im d ∧ keyOf d = some k ∧ o = valD kvs k) ∨ (∃ kvs ds ks, r1.dT = some kvs ∧ r2 = .im (.tuple ds) ∧ keysOf ds = some ks ∧ o = valD kvs ks)
theorem dGet.ok {H0 : Hp} {x y : V} {r1 r2 : R} {o : Option D} (le : Sub F H) (g : dGet r1 r2 o) (q1 : RepR K w H0 F H x r1) (q2 : RepR K w H0 F H y r2) :
    ∃ p ov, x = .ref p ∧ DGet H p y ov ∧ ((o = none ∧ ov = none) ∨ ∃ d v, o = some d ∧ ov = some v ∧ RepD K F v d) := by
  rcases g with ⟨kvs, d, k, e1, rfl, e2, rfl⟩ | ⟨kvs, ds, ks, e1, rfl, e2, rfl⟩
  · obtain ⟨p, vs, rfl, h, n, l⟩ := q1.isK e1
    obtain rfl := RepD.key q2 e2
    exact ⟨p, _, rfl, DGet.k h, l.val⟩
  · obtain ⟨p, vs, rfl, h, n, l⟩ := q1.isT e1
    obtain ⟨b, us, rfl, hb, lb⟩ := RepR.tuple (K := K) (w := w) (H := H0) le q2 (xs := ds) rfl
    obtain rfl := RepL.keys lb e2
    exact ⟨p, _, rfl, DGet.t h (le _ _ hb), l.val⟩
def wDget (wa wb : WE') : WE' := fun δ P PX => wa δ (fun r1 => wb δ (fun r2 => ∃ d, dGet r1 r2 (some d) ∧ P (.im d)) PX) PX
def wDin (neg : Bool) (wa wb : WE') : WE' := fun δ P PX => wa δ (fun r1 => wb δ (fun r2 => ∃ o, dGet r2 r1 o ∧ P (.im (.bool (if neg then !o.isSome else o.isSome)))) PX) PX
section
variable {X : Cx} {G : Gd} {W : WX} {e a b c : Expr} {wa wb wc : WE'} {pos : Pos}
theorem de_ix (ha : DE X G W a wa) (hb : DE X G W b wb) (hs : PlainIx b := by exact fun _ _ => rfl) : DE X G W (.Subscript a b pos) (wOp kIx wa wb) :=
  PE.imp (pe_ix ((ix_list.or ix_tup).or ix_str) ha hb hs) fun _ _ _ h => tOp_of opd_ix h
theorem de_dget (hu : X.A.units + 1 < cLine) (ha : DE X G W a wa) (hb : DE X G W b wb) (hs : NoSl b := by exact fun _ _ => rfl) : DE X G W (.Subscript a b pos) (wDget wa wb) :=
  PE.imp (pe_dget hu ha hb hs) fun σ H Q h => by
    obtain ⟨F, δ, P, PX, S, p, q, xk⟩ := h
    refine ⟨F, δ, _, PX, S, p, fun x F1 H1 r1 x1 q1 p1 => ?_, xk⟩
    refine dT.next S x1 xk p1 fun y F2 H2 r2 x2 q2 ⟨d, g, p2⟩ => ?_
    obtain ⟨p, ov, e, g', z⟩ := g.ok x2.le (q1.to x2) (q2.back x1)
    rcases z with ⟨z, _⟩ | ⟨d', v, z, rfl, rd⟩
    · cases z
    · cases z
      exact ⟨p, v, e, g', q v F2 H2 (.im d) (x1.trans x2) rd p2⟩
theorem din_of {neg : Bool} {σ : L2.St} {H : Hp} {Q : VK} (h : dT K G W (wDin neg wa wb) σ H Q) : dT K G W wa σ H fun y H1 => dT K G W wb σ H1 fun x H2 => ∃ a o, x = .ref a ∧ DGet H2 a y o ∧ Q (.bl (if neg then !o.isSome else o.isSome)) H2 := by
  obtain ⟨F, δ, P, PX, S, p, q, xk⟩ := h
  refine ⟨F, δ, _, PX, S, p, fun x F1 H1 r1 x1 q1 p1 => ?_, xk⟩
  refine dT.next S x1 xk p1 fun y F2 H2 r2 x2 q2 ⟨o, g, p2⟩ => ?_
  obtain ⟨p, ov, e, g', z⟩ := g.ok x2.le (q2.back x1) (q1.to x2)
  refine ⟨p, ov, e, g', ?_⟩
  have eo : ov.isSome = o.isSome := by
    rcases z with ⟨rfl, rfl⟩ | ⟨d', v, rfl, rfl, _⟩ <;> rfl
  rw [eo]
  exact q _ F2 H2 (.im _) (x1.trans x2) (.bl _) p2
theorem de_din (hu : X.A.units + 1 < cLine) (ha : DE X G W a wa) (hb : DE X G W b wb) (hm : behindInMarks .In b = false := by rfl) : DE X G W (.Compare a [.In] [b] pos) (wDin false wa wb) :=
  PE.imp (pe_cmp (pc_din hu ha hb) hm) fun σ H Q h => din_of h
theorem de_dnotin (hu : X.A.units + 1 < cLine) (ha : DE X G W a wa) (hb : DE X G W b wb) (hm : behindInMarks .NotIn b = false := by rfl) : DE X G W (.Compare a [.NotIn] [b] pos) (wDin true wa wb) :=
  PE.imp (pe_cmp (pc_dnotin hu ha hb) hm) fun σ H Q h => din_of h
theorem tBin_of {neg : Bool} {σ : L2.St} {H : Hp} {Q : Bool → Hp → Prop} (h : dTT K G W (wB (wDin neg wa wb)) σ H Q) : dT K G W wa σ H fun y H1 => dT K G W wb σ H1 fun x H2 => ∃ a o, x = .ref a ∧ DGet H2 a y o ∧ Q (if neg then !o.isSome else o.isSome) H2 := by
  have h' := din_of (tB_of h)
  obtain ⟨F, δ, P, PX, S, p, q, xk⟩ := h'
  refine ⟨F, δ, P, PX, S, p, fun v F' H' r x1 q1 p1 => ?_, xk⟩
  obtain ⟨F, δ, P, PX, S, p, q, xk⟩ := q v F' H' r x1 q1 p1
  refine ⟨F, δ, P, PX, S, p, fun v F' H' r x1 q1 p1 => ?_, xk⟩
  obtain ⟨a, o, e, g, c, ec, z⟩ := q v F' H' r x1 q1 p1
  cases ec
  exact ⟨a, o, e, g, z⟩
theorem dt_din (hu : X.A.units + 1 < cLine) (ha : DE X G W a wa) (hb : DE X G W b wb) (hm : behindInMarks .In b = false := by rfl) : DT X G W (.Compare a [.In] [b] pos) (wB (wDin false wa wb)) :=
  PT.imp (pt_cmp (pc_din hu ha hb) hm) fun σ H Q h => din_of (tB_of h)
theorem dt_dnotin (hu : X.A.units + 1 < cLine) (ha : DE X G W a wa) (hb : DE X G W b wb) (hm : behindInMarks .NotIn b = false := by rfl) : DT X G W (.Compare a [.NotIn] [b] pos) (wB (wDin true wa wb)) :=
  PT.imp (pt_cmp (pc_dnotin hu ha hb) hm) fun σ H Q h => din_of (tB_of h)
end

/-! ### arguments -/
def waNil : WA := fun _ P _ => P []
def waCons (we : WE') (wa : WA) : WA := fun δ P PX => we δ (fun r => wa δ (fun rs => P (r :: rs)) PX) PX
/-- a new list is frozen as soon as it is made -/
def R.frz : R → Option R
  | .im d => some (.im d)
  | .ol xs => some (.im (.list xs))
  | .drw => some .drw
  | _ => none
def wfCons (we : WE') (wa : WA) : WA := fun δ P PX => we δ (fun r => ∃ r', r.frz = some r' ∧ wa δ (fun rs => P (r' :: rs)) PX) PX
theorem RepR.frz {F0 H0 : Hp} (x : Ext w F0 H0 F1 H1) (q : RepR K w H0 F1 H1 v r) {r' : R} (e : r.frz = some r') : ∃ F2, Ext w F0 H0 F2 H1 ∧ Sub F1 F2 ∧ RepR K w H0 F2 H1 v r' := by
  cases r with
  | im d =>
    have z : R.im d = r' := Option.some.inj e
    subst z
    exact ⟨F1, x, Sub.refl, q⟩
  | ol xs =>
    have z : R.im (.list xs) = r' := Option.some.inj e
    subst z
    exact q.freeze x (d := .list xs) rfl
  | drw =>
    have z : R.drw = r' := Option.some.inj e
    subst z
    exact ⟨F1, x, Sub.refl, q⟩
  | _ => cases e
section
variable {X : Cx} {G : Gd} {W : WX} {e a b c : Expr} {es : List Expr} {we : WE'} {wa : WA} {pos : Pos}
theorem da_nil : DA X G W [] waNil := PA.imp pa_nil fun σ H Q ⟨F, δ, P, PX, S, p, k, xk⟩ => k [] F H [] S.ext.stay .nil p
theorem da_cons (he : DE X G W e we) (ha : DA X G W es wa) (hs : starEach (e :: es) X.env = (false, eval e X.env) :: starEach es X.env := by rfl) : DA X G W (e :: es) (waCons we wa) :=
  PA.imp (pa_cons he ha hs) fun σ H Q ⟨F, δ, P, PX, S, p, k, xk⟩ => by
    refine ⟨F, δ, _, PX, S, p, fun x F1 H1 r1 x1 q1 p1 => ?_, xk⟩
    refine dTA.next S x1 xk p1 fun vs F2 H2 rs x2 q2 p2 => ?_
    exact k (x :: vs) F2 H2 (r1 :: rs) (x1.trans x2) (.cons (q1.to x2) (q2.back x1)) p2
theorem da_fcons (he : DE X G W e we) (ha : DA X G W es wa) (hs : starEach (e :: es) X.env = (false, eval e X.env) :: starEach es X.env := by rfl) : DA X G W (e :: es) (wfCons we wa) :=
  PA.imp (pa_cons he ha hs) fun σ H Q ⟨F, δ, P, PX, S, p, k, xk⟩ => by
    refine ⟨F, δ, _, PX, S, p, fun x F1 H1 r1 x1 q1 ⟨r', er, p1⟩ => ?_, xk⟩
    obtain ⟨F1', x1', _, q1'⟩ := q1.frz x1 er
    refine dTA.next S x1' xk p1 fun vs F2 H2 rs x2 q2 p2 => ?_
    exact k (x :: vs) F2 H2 (r' :: rs) (x1'.trans x2) (.cons (q1'.to x2) (q2.back x1')) p2
/-- data alone -/
def dats : List R → Option (List D)
  | [] => some []
  | .im d :: rs => match dats rs with
    | some ds => some (d :: ds)
    | none => none
  | _ => none
theorem RepRs.dats : ∀ {vs : List V} {rs : List R} {ds : List D} {H0 : Hp}, RepRs K w H0 F H vs rs → DW.dats rs = some ds → RepL K F vs ds
  | _, [], ds, _, q, e => by cases q; cases e; exact .nil
  | _, r :: rs, ds, H0, q, e => by
    cases q with
    | cons a t =>
      cases r with
      | im d =>
        unfold DW.dats at e
        cases e2 : DW.dats rs with
        | none => rw [e2] at e; cases e
        | some ds' =>
          rw [e2] at e
          cases e
          exact .cons a (RepRs.dats t e2)
      | _ => cases e
def wTup (wa : WA) : WE' := fun δ P PX => wa δ (fun rs => ∃ ds, dats rs = some ds ∧ ds.length ≤ sizeLine ∧ P (.im (.tuple ds))) PX
def wLst (wa : WA) : WE' := fun δ P PX => wa δ (fun rs => ∃ ds, dats rs = some ds ∧ ds.length ≤ sizeLine ∧ P (.ol ds)) PX
theorem de_tup {k} (h : DA X G W es wa) : DE X G W (.Tuple es k pos) (wTup wa) := PE.imp (pe_tup h) fun σ H Q ⟨F, δ, P, PX, S, p, k, xk⟩ => by
  refine ⟨F, δ, _, PX, S, p, fun vs F1 H1 rs x1 q1 ⟨ds, e, hl, p1⟩ => ?_, xk⟩
  have l := q1.dats e
  refine ⟨by rw [RepL.length l]; exact hl, fun a ha => ?_⟩
  obtain ⟨x2, r2⟩ := new_tup (K := X.K) x1.stay ha l
  exact k _ _ _ _ (x1.trans x2) (r2.back x1) p1
theorem de_lst (h : DA X G W es wa) : DE X G W (.List es pos) (wLst wa) := PE.imp (pe_lst h) fun σ H Q ⟨F, δ, P, PX, S, p, k, xk⟩ => by
  refine ⟨F, δ, _, PX, S, p, fun vs F1 H1 rs x1 q1 ⟨ds, e, hl, p1⟩ => ?_, xk⟩
  have l := q1.dats e
  refine ⟨by rw [RepL.length l]; exact hl, fun a ha => ?_⟩
  obtain ⟨x2, r2⟩ := new_list (K := X.K) x1.stay ha l
  exact k _ _ _ _ (x1.trans x2) (r2.back x1) p1

/-! ### built-in functions by values -/
abbrev KC := List R → (R → Prop) → Prop
def CallD (K : PySem.W.Frag) (r : List V → Hp → VK → Prop) (k : KC) : Prop := ∀ (w : Option Dw) (H0 F H : Hp) (vs : List V) (rs : List R) (P : R → Prop) (Q : VK), Ext w F H F H → RepRs K w H0 F H vs rs → k rs P →
  (∀ v F' H' r, Ext w F H F' H' → RepR K w H F' H' v r → P r → Q v H') → r vs H Q
def wCall (k : KC) (wa : WA) : WE' := fun δ P PX => wa δ (fun rs => k rs P) PX
theorem tCB_of {r : List V → Hp → VK → Prop} {k : KC} (hk : CallD K r k) {σ : L2.St} {H : Hp} {Q : VK} (h : dT K G W (wCall k wa) σ H Q) : tCB r (dTA K G W wa) σ H Q := by
  obtain ⟨F, δ, P, PX, S, p, q, xk⟩ := h
  refine ⟨F, δ, _, PX, S, p, fun vs F1 H1 rs x1 q1 p1 => ?_, xk⟩
  exact hk G.w H F1 H1 vs rs P Q x1.stay q1 p1 fun v F' H' r x2 q2 p2 => q v F' H' r (x1.trans x2) (q2.back x1) p2
theorem CallD.or {r r' : List V → Hp → VK → Prop} {k k' : KC} (h : CallD K r k) (h' : CallD K r' k') : CallD K (fun xs H Q => r xs H Q ∨ r' xs H Q) (fun a P => k a P ∨ k' a P) := by
  intro w H0 F H xs rs P Q x0 q1 hk c
  rcases hk with hk | hk
  · exact .inl (h w H0 F H xs rs P Q x0 q1 hk c)
  · exact .inr (h' w H0 F H xs rs P Q x0 q1 hk c)
theorem CallD.imp {r : List V → Hp → VK → Prop} {k k' : KC} (h : CallD K r k) (i : ∀ a P, k' a P → k a P) : CallD K r k' := fun w H0 F H xs rs P Q x0 q1 hk c => h w H0 F H xs rs P Q x0 q1 (i _ _ hk) c
/-- len: a text, a list, a tuple, a dict -/
def kLen : KC := fun rs P => match rs with
  | [.im (.str s)] => s.length ≤ sizeLine ∧ P (.im (.int s.length))
  | [.im (.tuple xs)] => P (.im (.int xs.length))
  | [.im (.list xs)] => P (.im (.int xs.length))
  | [.ol xs] => P (.im (.int xs.length))
  | [.bl xs] => P (.im (.int xs.length))
  | _ => False
theorem callD_len : CallD K (fun xs H Q => ∃ x n, xs = [x] ∧ LenV K x H n ∧ Q (.int n) H) kLen := by
  intro w H0 F H vs rs P Q x0 q h k
  have lst : ∀ {v : V} {r : R} {xs : List D}, RepR K w H0 F H v r → r.lst = some xs → P (.im (.int xs.length)) → ∃ x n, [v] = [x] ∧ LenV K x H n ∧ Q (.int n) H := fun {v r xs} q e p => by
    obtain ⟨a, us, rfl, ha, la⟩ := q.list x0.le e
    refine ⟨_, us.length, rfl, .inl ⟨us, ha, rfl⟩, ?_⟩
    rw [RepL.length la]
    exact k _ F H (.im _) x0 (.int _) p
  unfold kLen at h
  split at h
  · rename_i s
    obtain ⟨hs, p⟩ := h
    cases q with
    | cons a t =>
      cases t; cases a
      exact ⟨_, s.length, rfl, ⟨hs, rfl⟩, k _ F H (.im _) x0 (.int _) p⟩
  · rename_i xs
    cases q with
    | cons a t =>
      cases t
      obtain ⟨b, us, rfl, hb, lb⟩ := RepR.tuple (K := K) (w := w) (H := H0) x0.le a (xs := xs) rfl
      refine ⟨_, us.length, rfl, .inr ⟨us, .inl (.inl (x0.le _ _ hb)), rfl⟩, ?_⟩
      rw [RepL.length lb]
      exact k _ F H (.im _) x0 (.int _) h
  · cases q with
    | cons a t => cases t; exact lst a rfl h
  · cases q with
    | cons a t => cases t; exact lst a rfl h
  · cases q with
    | cons a t => cases t; exact lst a rfl h
  · exact h.elim
end
end
end DW
set_option Elab.async false
set_option linter.all false
set_option maxRecDepth 100000
set_option maxHeartbeats 4000000
namespace DW
open PySem PySem.Spec L2

/-! ### storing in slots -/
def R.sv : R → Option SV
  | .im d => some (.im d)
  | .ol xs => some (.ol xs)
  | .oK xs => some (.oK xs)
  | .oT xs => some (.oT xs)
  | .drw => some .drw
  | _ => none
section
variable {K : PySem.W.Frag} {G : Gd} {F F1 F2 H H1 H2 : Hp} {σ : L2.St} {δ : DEnv}
theorem RepSV.own_at {w : Option Dw} {v : V} {s : SV} (r : RepSV K w F H v s) (o : s.owned = true) : ∃ p u, v = .ref p ∧ H p = some u ∧ F p = none ∧ ∀ d, w = some d → d.a ≠ p := by
  cases s with
  | im d => cases o
  | ol xs => obtain ⟨p, vs, e, h, n, nd, _⟩ := r; exact ⟨p, _, e, h, n, nd⟩
  | oK xs => obtain ⟨p, vs, e, h, n, nd, _⟩ := r; exact ⟨p, _, e, h, n, nd⟩
  | oT xs => obtain ⟨p, vs, e, h, n, nd, _⟩ := r; exact ⟨p, _, e, h, n, nd⟩
  | drw => cases o
/-- a slot is stored; what it holds, if it is its own, stands at no other slot's place -/
theorem RepS.store (S : RepS K G F H σ δ) {i : Nat} {v : V} {s : SV} (r : RepSV K G.w F H v s)
    (fr : s.owned = true → ∀ p, v = .ref p → G.H0 p = none ∧ ∀ (j : Nat) t, j ≠ i → δ[j]? = some (some t) → t.owned = true → σ[j]? ≠ some (some (.ref p))) : RepS K G F H (σ.set i (some v)) (δ.set i (some s)) := by
  refine ⟨S.ext, by rw [List.length_set, List.length_set]; exact S.len, fun j t e => ?_, fun j t p e o e2 => ?_, fun j k t u p ne e1 e2 o1 o2 e3 e4 => ?_⟩
  · by_cases h : j = i
    · subst h
      have hl : j < δ.length := by
        by_cases hl : j < δ.length
        · exact hl
        · rw [List.getElem?_eq_none (by rw [List.length_set]; omega)] at e; cases e
      rw [List.getElem?_set_self hl] at e
      cases e
      exact ⟨v, List.getElem?_set_self (by rw [S.len]; exact hl), r⟩
    · rw [List.getElem?_set_ne (Ne.symm h)] at e ⊢
      exact S.slot j t e
  · by_cases h : j = i
    · subst h
      have hl : j < δ.length := by
        by_cases hl : j < δ.length
        · exact hl
        · rw [List.getElem?_eq_none (by rw [List.length_set]; omega)] at e; cases e
      rw [List.getElem?_set_self hl] at e
      rw [List.getElem?_set_self (by rw [S.len]; exact hl)] at e2
      cases e; cases e2
      exact (fr o p rfl).1
    · rw [List.getElem?_set_ne (Ne.symm h)] at e e2
      exact S.fresh j t p e o e2
  · by_cases h : j = i
    · subst h
      have hl : j < δ.length := by
        by_cases hl : j < δ.length
        · exact hl
        · rw [List.getElem?_eq_none (by rw [List.length_set]; omega)] at e1; cases e1
      rw [List.getElem?_set_self hl] at e1
      rw [List.getElem?_set_self (by rw [S.len]; exact hl)] at e3
      rw [List.getElem?_set_ne ne] at e2 e4
      cases e1; cases e3
      exact (fr o1 p rfl).2 k u (Ne.symm ne) e2 o2 e4
    · rw [List.getElem?_set_ne (Ne.symm h)] at e1 e3
      by_cases h' : k = i
      · subst h'
        have hl : k < δ.length := by
          by_cases hl : k < δ.length
          · exact hl
          · rw [List.getElem?_eq_none (by rw [List.length_set]; omega)] at e2; cases e2
        rw [List.getElem?_set_self hl] at e2
        rw [List.getElem?_set_self (by rw [S.len]; exact hl)] at e4
        cases e2; cases e4
        exact (fr o2 p rfl).2 j t ne e1 o1 e3
      · rw [List.getElem?_set_ne (Ne.symm h')] at e2 e4
        exact S.apart j k t u p ne e1 e2 o1 o2 e3 e4
theorem RepR.to_sv {w : Option Dw} {v : V} {r : R} {s : SV} (q : RepR K w H F1 H1 v r) (e : r.sv = some s) : RepSV K w F1 H1 v s ∧ (s.owned = true → ∀ p, v = .ref p → H p = none) := by
  cases r with
  | im d => cases e; exact ⟨q, fun z => nomatch z⟩
  | ol xs => cases e; obtain ⟨p, vs, rfl, h0, h, n, nd, l⟩ := q; exact ⟨⟨p, vs, rfl, h, n, nd, l⟩, fun _ p' e => by cases e; exact h0⟩
  | oK xs => cases e; obtain ⟨p, vs, rfl, h0, h, n, nd, l⟩ := q; exact ⟨⟨p, vs, rfl, h, n, nd, l⟩, fun _ p' e => by cases e; exact h0⟩
  | oT xs => cases e; obtain ⟨p, vs, rfl, h0, h, n, nd, l⟩ := q; exact ⟨⟨p, vs, rfl, h, n, nd, l⟩, fun _ p' e => by cases e; exact h0⟩
  | drw => cases e; exact ⟨q, fun z => nomatch z⟩
  | _ => cases e
/-- a result of an expression is stored -/
theorem RepS.put (S : RepS K G F H σ δ) (x : Ext G.w F H F1 H1) {i : Nat} {v : V} {r : R} {s : SV} (q : RepR K G.w H F1 H1 v r) (e : r.sv = some s) : RepS K G F1 H1 (σ.set i (some v)) (δ.set i (some s)) := by
  obtain ⟨rs, n⟩ := q.to_sv e
  refine (S.to x).store rs fun o p ep => ?_
  have hp := n o p ep
  refine ⟨S.ext.none hp, fun j t hj ej ot es => ?_⟩
  obtain ⟨v', e1, r'⟩ := S.slot j t ej
  rw [es] at e1
  cases e1
  obtain ⟨p', u, ep', h', _⟩ := r'.own_at ot
  cases ep'
  rw [hp] at h'; cases h'

/-! ### targets: data alone -/
abbrev WG := D → DEnv → (DEnv → Prop) → Prop
abbrev WGs := List D → DEnv → (DEnv → Prop) → Prop
/-- only the slots ts are stored -/
def Only (ts : List Nat) (σ σ' : L2.St) : Prop := σ'.length = σ.length ∧ ∀ j, j ∉ ts → σ'[j]? = σ[j]?
def dGT (K : PySem.W.Frag) (G : Gd) (ts : List Nat) (wg : WG) : TG := fun v σ H Q => ∃ F δ d P, RepS K G F H σ δ ∧ RepD K F v d ∧ wg d δ P ∧ ∀ σ' δ', Only ts σ σ' → RepS K G F H σ' δ' → P δ' → Q σ' H
def dGTs (K : PySem.W.Frag) (G : Gd) (ts : List Nat) (wg : WGs) : TGs := fun vs σ H Q => ∃ F δ ds P, RepS K G F H σ δ ∧ RepL K F vs ds ∧ wg ds δ P ∧ ∀ σ' δ', Only ts σ σ' → RepS K G F H σ' δ' → P δ' → Q σ' H
abbrev DG (X : Cx) (G : Gd) (ts : List Nat) (e : Expr) (wg : WG) : Prop := PG X e (dGT X.K G ts wg)
abbrev DGs (X : Cx) (G : Gd) (ts : List Nat) (es : List Expr) (wg : WGs) : Prop := PGs X es (dGTs X.K G ts wg)
theorem PG.imp {X : Cx} {e : Expr} {t t' : TG} (h : PG X e t) (i : ∀ v σ H Q, t' v σ H Q → t v σ H Q) : PG X e t' := ⟨fun pins s σ H v u Q I r q => h.run pins s σ H v u Q I r (i v σ H Q q)⟩
theorem PGs.imp {X : Cx} {e : List Expr} {t t' : TGs} (h : PGs X e t) (i : ∀ v σ H Q, t' v σ H Q → t v σ H Q) : PGs X e t' := ⟨fun pins s σ H v u Q I r q => h.run pins s σ H v u Q I r (i v σ H Q q)⟩
theorem Only.refl {ts : List Nat} : Only ts σ σ := ⟨rfl, fun _ _ => rfl⟩
theorem Only.one {i : Nat} {v : Option V} : Only [i] σ (σ.set i v) := ⟨List.length_set, fun j h => List.getElem?_set_ne (fun z => h (by rw [z]; exact List.mem_cons_self))⟩
theorem Only.app {ts us : List Nat} {σ1 σ2 : L2.St} (a : Only ts σ σ1) (b : Only us σ1 σ2) : Only (ts ++ us) σ σ2 :=
  ⟨b.1.trans a.1, fun j h => (b.2 j fun z => h (List.mem_append_right _ z)).trans (a.2 j fun z => h (List.mem_append_left _ z))⟩
def wgName (i : Nat) : WG := fun d δ P => P (δ.set i (some (.im d)))
def wgsNil : WGs := fun ds δ P => ds = [] ∧ P δ
def wgsCons (g : WG) (gs : WGs) : WGs := fun ds δ P => ∃ d r, ds = d :: r ∧ g d δ fun δ1 => gs r δ1 P
def wgTup (n : Nat) (gs : WGs) : WG := fun d δ P => ∃ ds, d = .tuple ds ∧ ds.length = n ∧ gs ds δ P
section
variable {X : Cx} {W : WX} {e : Expr} {es : List Expr} {pos : Pos}
theorem dg_name {i : Nat} (h : PG X e (gName i)) : DG X G [i] e (wgName i) := PG.imp h fun v σ H Q ⟨F, δ, d, P, S, r, p, k⟩ =>
  k _ _ Only.one (S.store (s := .im d) r fun z => nomatch z) p
theorem dgs_nil : DGs X G [] [] wgsNil := PGs.imp pgs_nil fun vs σ H Q ⟨F, δ, ds, P, S, r, ⟨e, p⟩, k⟩ => by
  subst e
  cases r
  exact ⟨rfl, k σ δ Only.refl S p⟩
theorem dgs_cons {ts us : List Nat} {g : WG} {gs : WGs} (h : DG X G ts e g) (hs : DGs X G us es gs) (ha : (assignEach (e :: es) X.env).map (·.2) = assign e X.env :: (assignEach es X.env).map (·.2) := by rfl) : DGs X G (ts ++ us) (e :: es) (wgsCons g gs) :=
  PGs.imp (pgs_cons h hs ha) fun vs σ H Q ⟨F, δ, ds, P, S, r, ⟨d, rr, e, p⟩, k⟩ => by
    subst e
    cases r with
    | cons a t => exact ⟨_, _, rfl, F, δ, d, _, S, a, p, fun σ1 δ1 o1 S1 p1 => ⟨F, δ1, rr, P, S1, t, p1, fun σ2 δ2 o2 S2 p2 => k σ2 δ2 (o1.app o2) S2 p2⟩⟩
theorem dg_tup {ts : List Nat} {gs : WGs} {n k : Nat} (hc : X.calm = true) (h : DGs X G ts es gs) (hn : (assignEach es X.env).length = n := by rfl) (hst : (assignEach es X.env).findIdx? (·.1) = none := by rfl) : DG X G ts (.Tuple es k pos) (wgTup n gs) :=
  PG.imp (pg_tup hc h hn hst) fun v σ H Q ⟨F, δ, d, P, S, r, ⟨ds, e, hl, p⟩, k⟩ => by
    subst e
    cases r with
    | tup ha l => exact ⟨_, _, rfl, .inl (.inl (S.ext.le _ _ ha)), by rw [RepL.length l]; exact hl, F, δ, ds, P, S, l, p, k⟩
end

/-! ### what is walked -/
abbrev WI := DEnv → (List D → Prop) → (DX → Prop) → Prop
/-- the walk of items while C holds -/
def DWalk (K : PySem.W.Frag) (w : Option Dw) (C : Hp → Hp → Prop) (J : It) (items : List D) : Prop :=
  ∀ F H, C F H → Ext w F H F H → (∀ i, i < items.length → J.go i H) ∧ J.stop items.length H ∧
    ∀ i x H' d, items[i]? = some d → J.yld i H x H' → ∃ F', Ext w F H F' H' ∧ RepD K F' x d
def StC (w : Option Dw) (st : Bool) (C : Hp → Hp → Prop) : Prop :=
  if st = true then ∀ F H F2 H2, C F H → Sub F F2 → Sub F2 H2 → C F2 H2 else ∀ F H F2 H2, C F H → Ext w F H F2 H2 → C F2 H2
theorem StC.ext {w : Option Dw} {st : Bool} {C : Hp → Hp → Prop} (s : StC w st C) (c : C F H) (x : Ext w F H F1 H1) : C F1 H1 := by
  unfold StC at s
  cases st with
  | true => exact s F H F1 H1 c x.fs x.le
  | false => exact s F H F1 H1 c x
def dTI (K : PySem.W.Frag) (G : Gd) (W : WX) (st : Bool) (wi : WI) : TI := fun σ H R => ∃ F δ P PX, RepS K G F H σ δ ∧ wi δ P PX ∧
  (∀ J C F' H' items, Ext G.w F H F' H' → C F' H' → DWalk K G.w C J items → StC G.w st C → P items → R J H') ∧ xok K G.w W F H σ PX
abbrev DI (X : Cx) (G : Gd) (W : WX) (st : Bool) (tg e : Expr) (wi : WI) : Prop := PI X tg e (dTI X.K G W st wi)
theorem PI.imp {X : Cx} {tg e : Expr} {t t' : TI} (h : PI X tg e t) (i : ∀ σ H Q, t' σ H Q → t σ H Q) : PI X tg e t' := ⟨fun pins s σ H Q I q => h.run pins s σ H Q I (i σ H Q q)⟩
section
variable {X : Cx} {W : WX} {st : Bool} {tg e : Expr} {we : WE'} {pos : Pos}
/-- a frozen list -/
def wiL (we : WE') : WI := fun δ P PX => we δ (fun r => ∃ xs, r.dat = some (.list xs) ∧ P xs) PX
/-- a list, a local's own too -/
def wiLb (we : WE') : WI := fun δ P PX => we δ (fun r => ∃ xs, r.lst = some xs ∧ P xs) PX
def wiT (we : WE') : WI := fun δ P PX => we δ (fun r => ∃ xs, r.tup = some xs ∧ P xs) PX
def signs (s : Str) : List D := s.cps.toList.map fun c => .str ⟨#[c]⟩
def wiS (we : WE') : WI := fun δ P PX => we δ (fun r => ∃ s, r = .im (.str s) ∧ P (signs s)) PX
theorem walkL {w : Option Dw} {a : Addr} {vs : List V} {xs : List D} {F0 : Hp} (l : RepL K F0 vs xs) : DWalk K w (fun F H => Sub F0 F ∧ SqL K H a vs) (Itl K a) xs := by
  intro F H ⟨s0, h⟩ x0
  refine ⟨fun i hi => ?_, ⟨vs, h, by rw [RepL.length l]; exact Nat.le_refl _⟩, fun i x H' d e y => ?_⟩
  · have hi' : i < vs.length := by rw [RepL.length l]; exact hi
    exact ⟨vs, vs[i], h, List.getElem?_eq_getElem hi'⟩
  · obtain ⟨rfl, y⟩ := y
    obtain ⟨v, e1, rv⟩ := RepL.get l e
    have e2 := y vs h
    rw [e1] at e2
    cases e2
    exact ⟨F, x0, RepD.mono s0 rv⟩
theorem walkT {w : Option Dw} {a : Addr} {vs : List V} {xs : List D} {F0 : Hp} (l : RepL K F0 vs xs) : DWalk K w (fun F H => Sub F0 F ∧ SqT K H a vs) (Itt K a) xs := by
  intro F H ⟨s0, h⟩ x0
  refine ⟨fun i hi => ?_, ⟨vs, h, by rw [RepL.length l]; exact Nat.le_refl _⟩, fun i x H' d e y => ?_⟩
  · have hi' : i < vs.length := by rw [RepL.length l]; exact hi
    exact ⟨vs, vs[i], h, List.getElem?_eq_getElem hi'⟩
  · obtain ⟨rfl, y⟩ := y
    obtain ⟨v, e1, rv⟩ := RepL.get l e
    have e2 := y vs h
    rw [e1] at e2
    cases e2
    exact ⟨F, x0, RepD.mono s0 rv⟩
theorem di_list (he : DE X G W e we) : DI X G W true tg e (wiL we) := PI.imp (pi_list he) fun σ H R ⟨F, δ, P, PX, S, p, k, xk⟩ => by
  refine ⟨F, δ, _, PX, S, p, fun v F1 H1 r x1 q ⟨xs, e, p1⟩ => ?_, xk⟩
  obtain ⟨F2, x2, _, rd⟩ := q.freeze x1 e
  cases rd with
  | lst h l =>
    rename_i a vs
    refine ⟨a, rfl, ⟨vs, .inl (.inl (x2.le _ _ h))⟩, k _ (fun F H => Sub F2 F ∧ F a = some (.lst vs) ∧ Sub F H) F2 H1 xs x2 ⟨Sub.refl, h, x2.le⟩ (fun F H ⟨s0, hr, le⟩ x0 => walkL l F H ⟨s0, .inl (.inl (le _ _ hr))⟩ x0) ?_ p1⟩
    exact fun F H F' H' ⟨s0, hr, le⟩ s1 s2 => ⟨s0.trans s1, s1 _ _ hr, s2⟩
theorem di_listb (he : DE X G W e we) : DI X G W false tg e (wiLb we) := PI.imp (pi_list he) fun σ H R ⟨F, δ, P, PX, S, p, k, xk⟩ => by
  refine ⟨F, δ, _, PX, S, p, fun v F1 H1 r x1 q ⟨xs, e, p1⟩ => ?_, xk⟩
  cases r with
  | im d =>
    cases d with
    | list ys =>
      have z : ys = xs := Option.some.inj e
      subst z
      cases q with
      | lst h l =>
        rename_i a vs
        exact ⟨a, rfl, ⟨vs, .inl (.inl (x1.le _ _ h))⟩, k _ (fun F H => Sub F1 F ∧ F a = some (.lst vs) ∧ Sub F H) F1 H1 ys x1 ⟨Sub.refl, h, x1.le⟩ (fun F H ⟨s0, hr, le⟩ x0 => walkL l F H ⟨s0, .inl (.inl (le _ _ hr))⟩ x0) (fun F H F' H' ⟨s0, hr, le⟩ y => ⟨s0.trans y.fs, y.fs _ _ hr, y.le⟩) p1⟩
    | _ => cases e
  | ol ys =>
    have z : ys = xs := Option.some.inj e
    subst z
    obtain ⟨a, vs, rfl, _, h, n, nd, l⟩ := q
    refine ⟨a, rfl, ⟨vs, SqL.of h⟩, k _ (fun F H => Sub F1 F ∧ H a = some (.lst vs) ∧ F a = none) F1 H1 ys x1 ⟨Sub.refl, h, n⟩ (fun F H ⟨s0, hr, _⟩ x0 => walkL l F H ⟨s0, SqL.of hr⟩ x0) (fun F H F' H' ⟨s0, hr, hn⟩ y => ?_) p1⟩
    obtain ⟨h', n'⟩ := y.keepN hr hn nd
    exact ⟨s0.trans y.fs, h', n'⟩
  | bl ys =>
    have z : ys = xs := Option.some.inj e
    subst z
    obtain ⟨a, vs, rfl, h, n, nd, l⟩ := q
    refine ⟨a, rfl, ⟨vs, SqL.of h⟩, k _ (fun F H => Sub F1 F ∧ H a = some (.lst vs) ∧ F a = none) F1 H1 ys x1 ⟨Sub.refl, h, n⟩ (fun F H ⟨s0, hr, _⟩ x0 => walkL l F H ⟨s0, SqL.of hr⟩ x0) (fun F H F' H' ⟨s0, hr, hn⟩ y => ?_) p1⟩
    obtain ⟨h', n'⟩ := y.keepN hr hn nd
    exact ⟨s0.trans y.fs, h', n'⟩
  | _ => cases e
theorem di_tup (he : DE X G W e we) : DI X G W true tg e (wiT we) := PI.imp (pi_tup he) fun σ H R ⟨F, δ, P, PX, S, p, k, xk⟩ => by
  refine ⟨F, δ, _, PX, S, p, fun v F1 H1 r x1 q ⟨xs, e, p1⟩ => ?_, xk⟩
  obtain ⟨a, vs, rfl, h, l⟩ := q.tuple x1.le e
  refine ⟨a, rfl, ⟨vs, .inl (.inl (x1.le _ _ h))⟩, k _ (fun F H => Sub F1 F ∧ F a = some (.tup vs) ∧ Sub F H) F1 H1 xs x1 ⟨Sub.refl, h, x1.le⟩ (fun F H ⟨s0, hr, le⟩ x0 => walkT l F H ⟨s0, .inl (.inl (le _ _ hr))⟩ x0) ?_ p1⟩
  exact fun F H F' H' ⟨s0, hr, le⟩ s1 s2 => ⟨s0.trans s1, s1 _ _ hr, s2⟩
theorem signs_len {s : Str} : (signs s).length = s.cps.size := by unfold signs; simp
theorem di_str (he : DE X G W e we) : DI X G W true tg e (wiS we) := PI.imp (pi_str he) fun σ H R ⟨F, δ, P, PX, S, p, k, xk⟩ => by
  refine ⟨F, δ, _, PX, S, p, fun v F1 H1 r x1 q ⟨s, e, p1⟩ => ?_, xk⟩
  subst e
  cases q
  refine ⟨s, rfl, k _ (fun _ _ => True) F1 H1 _ x1 trivial (fun F H _ x0 => ⟨fun i hi => ?_, ?_, fun i x H' d e y => ?_⟩) (fun _ _ _ _ _ _ _ => trivial) p1⟩
  · show i < s.cps.size
    rw [← signs_len]; exact hi
  · show s.cps.size ≤ (signs s).length
    rw [signs_len]; exact Nat.le_refl _
  · obtain ⟨rfl, c, hc, rfl⟩ := y
    unfold signs at e
    rw [List.getElem?_map] at e
    have hc' : s.cps.toList[i]? = some c := by simpa using hc
    rw [hc'] at e
    cases e
    exact ⟨F, x0, .str _⟩
end
end
end DW
set_option Elab.async false
set_option linter.all false
set_option maxRecDepth 100000
set_option maxHeartbeats 4000000
namespace DW
open PySem PySem.Spec L2

section
variable {K : PySem.W.Frag} {G : Gd} {F F1 F2 H H1 H2 : Hp} {σ : L2.St} {δ : DEnv}
variable {X : Cx} {W : WX} {st : Bool} {tg e a b c : Expr} {es rest : List Expr} {we wa wb wc : WE'} {wt wu : WT} {waa : WA} {pos p : Pos}

/-! ### ranges, enumerate -/
def intsD (lo : Int) (n : Nat) : List D := (List.range n).map fun i => .int (lo + (i : Nat))
theorem intsD_len {lo : Int} {n : Nat} : (intsD lo n).length = n := by unfold intsD; simp
theorem intsD_at {lo : Int} {n i : Nat} {d : D} (e : (intsD lo n)[i]? = some d) : d = .int (lo + (i : Nat)) := by
  unfold intsD at e
  rw [List.getElem?_map] at e
  cases q : (List.range n)[i]? with
  | none => rw [q] at e; cases e
  | some j =>
    rw [q] at e
    have : j = i := by
      have := List.getElem?_eq_some_iff.mp q
      obtain ⟨h, e2⟩ := this
      rw [List.getElem_range] at e2
      exact e2.symm
    subst this
    exact (Option.some.inj e).symm
theorem walkR {w : Option Dw} {lo : Int} {n : Nat} : DWalk K w (fun _ _ => True) (Itr lo n) (intsD lo n) := by
  intro F H _ x0
  refine ⟨fun i hi => by rw [intsD_len] at hi; exact hi, by show n ≤ _; rw [intsD_len]; exact Nat.le_refl _, fun i x H' d e y => ?_⟩
  obtain ⟨rfl, rfl⟩ := y
  rw [intsD_at e]
  exact ⟨F, x0, .int _⟩
def wiR1 (wa : WA) : WI := fun δ P PX => wa δ (fun rs => ∃ j : Int, rs = [.im (.int j)] ∧ -(2 ^ 62) ≤ j ∧ j < 2 ^ 62 ∧ P (intsD 0 j.toNat)) PX
def wiR2 (wa : WA) : WI := fun δ P PX => wa δ (fun rs => ∃ i j : Int, rs = [.im (.int i), .im (.int j)] ∧ (-(2 ^ 62) ≤ i ∧ i < 2 ^ 62 ∧ -(2 ^ 62) ≤ j ∧ j < 2 ^ 62) ∧ P (intsD i (j - i).toNat)) PX
theorem stT {w : Option Dw} {s : Bool} : StC w s fun _ _ => True := by
  unfold StC
  cases s with
  | true => exact fun _ _ _ _ _ _ _ => trivial
  | false => exact fun _ _ _ _ _ _ => trivial
theorem di_range1 (hg : Gl X "range") (hm : X.mg "range" = none) (ha : DA X G W [a] waa) (hs : starEach [a] X.env = [(false, eval a X.env)] := by rfl) : DI X G W st tg (.Call (.Name "range" p) [a] [] pos) (wiR1 waa) :=
  PI.imp (pi_range1 hg hm ha hs) fun σ H R ⟨F, δ, P, PX, S, q, k, xk⟩ => by
    refine ⟨F, δ, _, PX, S, q, fun vs F1 H1 rs x1 q1 ⟨j, e, h1, h2, p1⟩ => ?_, xk⟩
    subst e
    cases q1 with
    | cons r t =>
      cases t; cases r
      exact ⟨j, rfl, h1, h2, k _ _ F1 H1 _ x1 trivial walkR stT p1⟩
theorem di_range2 (hg : Gl X "range") (hm : X.mg "range" = none) (ha : DA X G W [a, b] waa) (hs : starEach [a, b] X.env = [(false, eval a X.env), (false, eval b X.env)] := by rfl) (hs2 : starEach [b] X.env = [(false, eval b X.env)] := by rfl) :
    DI X G W st tg (.Call (.Name "range" p) [a, b] [] pos) (wiR2 waa) :=
  PI.imp (pi_range2 hg hm ha hs hs2) fun σ H R ⟨F, δ, P, PX, S, q, k, xk⟩ => by
    refine ⟨F, δ, _, PX, S, q, fun vs F1 H1 rs x1 q1 ⟨i, j, e, h, p1⟩ => ?_, xk⟩
    subst e
    cases q1 with
    | cons r t =>
      cases t with
      | cons r2 t2 =>
        cases t2; cases r; cases r2
        exact ⟨i, j, rfl, h, k _ _ F1 H1 _ x1 trivial walkR stT p1⟩
/-- the pairs of enumerate -/
def enums (xs : List D) : List D := (List.range xs.length).map fun i => .tuple [.int (i : Nat), xs.getD i .none]
theorem enums_len {xs : List D} : (enums xs).length = xs.length := by unfold enums; simp
theorem enums_at {xs : List D} {i : Nat} {d : D} (e : (enums xs)[i]? = some d) : ∃ y, xs[i]? = some y ∧ d = .tuple [.int (i : Nat), y] := by
  unfold enums at e
  rw [List.getElem?_map] at e
  cases q : (List.range xs.length)[i]? with
  | none => rw [q] at e; cases e
  | some j =>
    rw [q] at e
    obtain ⟨h, e2⟩ := List.getElem?_eq_some_iff.mp q
    rw [List.getElem_range] at e2
    subst e2
    rw [List.length_range] at h
    refine ⟨xs[i], List.getElem?_eq_getElem h, ?_⟩
    rw [← Option.some.inj e]
    simp [List.getD_eq_getElem?_getD, h]
theorem walkE {w : Option Dw} {a : Addr} {vs : List V} {xs : List D} {F0 : Hp} (l : RepL K F0 vs xs) : DWalk K w (fun F H => Sub F0 F ∧ SqL K H a vs) (Ite K a) (enums xs) := by
  intro F H ⟨s0, h⟩ x0
  refine ⟨fun i hi => ?_, ⟨vs, h, by rw [RepL.length l, enums_len]; exact Nat.le_refl _⟩, fun i x H' d e y => ?_⟩
  · have hi' : i < vs.length := by rw [RepL.length l, ← enums_len]; exact hi
    exact ⟨vs, vs[i], h, List.getElem?_eq_getElem hi'⟩
  · obtain ⟨T, z, rfl, hT, rfl, y⟩ := y
    obtain ⟨dy, ey, rfl⟩ := enums_at e
    obtain ⟨v, e1, rv⟩ := RepL.get l ey
    have e2 := y vs h
    rw [e1] at e2
    cases e2
    have x1 := x0.laid (u := .tup [.int (i : Nat), z]) hT
    exact ⟨_, x1, .tup upd_same (.cons (.int _) (.cons (RepD.mono (s0.trans x1.fs) rv) .nil))⟩
def wiE (wa : WA) : WI := fun δ P PX => wa δ (fun rs => ∃ r xs, rs = [r] ∧ r.dat = some (.list xs) ∧ P (enums xs)) PX
theorem di_enum {elts : List Expr} {kk : Nat} {tpos : Pos} (hg : Gl X "enumerate") (hm : X.mg "enumerate" = none) (ha : DA X G W [e] waa) (hs : starEach [e] X.env = [(false, eval e X.env)] := by rfl) :
    DI X G W true (.Tuple elts kk tpos) (.Call (.Name "enumerate" p) [e] [] pos) (wiE waa) :=
  PI.imp (pi_enum hg hm ha hs) fun σ H R ⟨F, δ, P, PX, S, q, k, xk⟩ => by
    refine ⟨F, δ, _, PX, S, q, fun vs F1 H1 rs x1 q1 ⟨r, xs, e, ed, p1⟩ => ?_, xk⟩
    subst e
    cases q1 with
    | cons rr t =>
      cases t
      obtain ⟨F2, x2, _, rd⟩ := rr.freeze x1 ed
      cases rd with
      | lst h l =>
        rename_i a' vs'
        refine ⟨a', vs', rfl, .inl (.inl (x2.le _ _ h)), k _ (fun F H => Sub F2 F ∧ F a' = some (.lst vs') ∧ Sub F H) F2 H1 _ x2 ⟨Sub.refl, h, x2.le⟩ (fun F H ⟨s0, hr, le⟩ x0 => walkE l F H ⟨s0, .inl (.inl (le _ _ hr))⟩ x0) ?_ p1⟩
        exact fun F H F' H' ⟨s0, hr, le⟩ s1 s2 => ⟨s0.trans s1, s1 _ _ hr, s2⟩

/-! ### tests -/
def wtAnd (t u : WT) : WT := fun δ P PX => t δ (fun b => if b = true then u δ P PX else P false) PX
def wtOr (t u : WT) : WT := fun δ P PX => t δ (fun b => if b = true then P true else u δ P PX) PX
def wtNot (t : WT) : WT := fun δ P PX => t δ (fun b => P (!b)) PX
abbrev DW_ (X : Cx) (G : Gd) (W : WX) (e : Expr) (wt : WT) : Prop := PW X e (dTT X.K G W wt)
theorem PW.imp {X : Cx} {e : Expr} {t t' : TT} (h : PW X e t) (i : ∀ σ H Q, t' σ H Q → t σ H Q) : PW X e t' := ⟨fun wh pins s σ H Q I q => h.run wh pins s σ H Q I (i σ H Q q)⟩
theorem dtt_next {wt : WT} {P : Bool → Prop} {PX : DX → Prop} {Q : Bool → Hp → Prop} (S : RepS K G F H σ δ) (x : Ext G.w F H F1 H1) (xk : xok K G.w W F H σ PX) (h : wt δ P PX)
    (k : ∀ v F' H', Ext G.w F1 H1 F' H' → P v → Q v H') : dTT K G W wt σ H1 Q := ⟨F1, δ, P, PX, S.to x, h, k, xk.to x⟩
theorem dw_and1 (ha : DT X G W a wt) : DW_ X G W (.BoolOp .And [a] pos) wt := pw_and1 ha
theorem dw_or1 (ha : DT X G W a wt) : DW_ X G W (.BoolOp .Or [a] pos) wt := pw_or1 ha
theorem dw_and (ha : DT X G W a wt) (hb : DW_ X G W (.BoolOp .And (b :: rest) pos) wu) : DW_ X G W (.BoolOp .And (a :: b :: rest) pos) (wtAnd wt wu) :=
  PW.imp (pw_and ha hb) fun σ H Q ⟨F, δ, P, PX, S, q, k, xk⟩ => by
    refine ⟨F, δ, _, PX, S, q, fun c F1 H1 x1 p1 => ?_, xk⟩
    cases c with
    | true => exact dtt_next S x1 xk p1 fun v F' H' x2 p2 => k v F' H' (x1.trans x2) p2
    | false => exact k false F1 H1 x1 p1
theorem dw_or (ha : DT X G W a wt) (hb : DW_ X G W (.BoolOp .Or (b :: rest) pos) wu) : DW_ X G W (.BoolOp .Or (a :: b :: rest) pos) (wtOr wt wu) :=
  PW.imp (pw_or ha hb) fun σ H Q ⟨F, δ, P, PX, S, q, k, xk⟩ => by
    refine ⟨F, δ, _, PX, S, q, fun c F1 H1 x1 p1 => ?_, xk⟩
    cases c with
    | true => exact k true F1 H1 x1 p1
    | false => exact dtt_next S x1 xk p1 fun v F' H' x2 p2 => k v F' H' (x1.trans x2) p2
theorem dt_w (h : DW_ X G W e wt) : DT X G W e wt := h.pt
theorem dt_not (ha : DT X G W a wt) : DT X G W (.UnaryOp .Not a pos) (wtNot wt) :=
  PT.imp (pt_not ha) fun σ H Q ⟨F, δ, P, PX, S, q, k, xk⟩ => ⟨F, δ, _, PX, S, q, fun c F1 H1 x1 p1 => k (!c) F1 H1 x1 p1, xk⟩
/-- .. as values -/
def wVand (wa wb : WE') : WE' := fun δ P PX => wa δ (fun r => ∃ b, r = .im (.bool b) ∧ if b = true then wb δ P PX else P (.im (.bool false))) PX
def wVor (wa wb : WE') : WE' := fun δ P PX => wa δ (fun r => ∃ b, r = .im (.bool b) ∧ if b = true then P (.im (.bool true)) else wb δ P PX) PX
def wVnot (wa : WE') : WE' := fun δ P PX => wa δ (fun r => ∃ b, r = .im (.bool b) ∧ P (.im (.bool (!b)))) PX
theorem de_one {op} (h : DE X G W a wa) : DE X G W (.BoolOp op [a] pos) wa := pe_one h
theorem de_and (ha : DE X G W a wa) (hb : DE X G W (.BoolOp .And (b :: rest) pos) wb) : DE X G W (.BoolOp .And (a :: b :: rest) pos) (wVand wa wb) :=
  PE.imp (pe_and ha hb) fun σ H Q ⟨F, δ, P, PX, S, q, k, xk⟩ => by
    refine ⟨F, δ, _, PX, S, q, fun v F1 H1 r x1 q1 ⟨c, e, p1⟩ => ?_, xk⟩
    subst e
    cases q1
    refine ⟨c, rfl, ?_⟩
    cases c with
    | true => exact dT.next S x1 xk p1 fun v F' H' r x2 q2 p2 => k v F' H' r (x1.trans x2) (q2.back x1) p2
    | false => exact k (.bl false) F1 H1 (.im _) x1 (.bl _) p1
theorem de_or (ha : DE X G W a wa) (hb : DE X G W (.BoolOp .Or (b :: rest) pos) wb) : DE X G W (.BoolOp .Or (a :: b :: rest) pos) (wVor wa wb) :=
  PE.imp (pe_or ha hb) fun σ H Q ⟨F, δ, P, PX, S, q, k, xk⟩ => by
    refine ⟨F, δ, _, PX, S, q, fun v F1 H1 r x1 q1 ⟨c, e, p1⟩ => ?_, xk⟩
    subst e
    cases q1
    refine ⟨c, rfl, ?_⟩
    cases c with
    | true => exact k (.bl true) F1 H1 (.im _) x1 (.bl _) p1
    | false => exact dT.next S x1 xk p1 fun v F' H' r x2 q2 p2 => k v F' H' r (x1.trans x2) (q2.back x1) p2
theorem de_not (ha : DE X G W a wa) : DE X G W (.UnaryOp .Not a pos) (wVnot wa) :=
  PE.imp (pe_not ha) fun σ H Q ⟨F, δ, P, PX, S, q, k, xk⟩ => by
    refine ⟨F, δ, _, PX, S, q, fun v F1 H1 r x1 q1 ⟨c, e, p1⟩ => ?_, xk⟩
    subst e
    cases q1
    exact ⟨c, rfl, k _ F1 H1 (.im _) x1 (.bl _) p1⟩
def wIf (t : WT) (wa wb : WE') : WE' := fun δ P PX => t δ (fun b => if b = true then wa δ P PX else wb δ P PX) PX
theorem de_if (hc : DT X G W c wt) (ha : DE X G W a wa) (hb : DE X G W b wb) : DE X G W (.IfExp c a b pos) (wIf wt wa wb) :=
  PE.imp (pe_ifExp hc ha hb) fun σ H Q ⟨F, δ, P, PX, S, q, k, xk⟩ => by
    refine ⟨F, δ, _, PX, S, q, fun c F1 H1 x1 p1 => ?_, xk⟩
    cases c with
    | true => exact dT.next S x1 xk p1 fun v F' H' r x2 q2 p2 => k v F' H' r (x1.trans x2) (q2.back x1) p2
    | false => exact dT.next S x1 xk p1 fun v F' H' r x2 q2 p2 => k v F' H' r (x1.trans x2) (q2.back x1) p2
/-- a chain of two comparisons -/
def wChain (k1 k2 : KO) (wa wb wc : WE') : WE' := fun δ P PX => wa δ (fun r1 => wb δ (fun r2 => k1 r1 r2 fun r => ∃ b, r = .im (.bool b) ∧ if b = true then wc δ (fun r3 => k2 r2 r3 P) PX else P (.im (.bool false))) PX) PX
theorem chain_of {r r' : R2} {k1 k2 : KO} (h1 : OpD K r k1) (h2 : OpD K r' k2) {σ : L2.St} {H : Hp} {Q : VK} (h : dT K G W (wChain k1 k2 wa wb wc) σ H Q) : tChain r r' (dT K G W wa) (dT K G W wb) (dT K G W wc) σ H Q := by
  obtain ⟨F, δ, P, PX, S, q, k, xk⟩ := h
  refine ⟨F, δ, _, PX, S, q, fun x F1 H1 r1 x1 q1 p1 => ?_, xk⟩
  refine dT.next S x1 xk p1 fun y F2 H2 r2 x2 q2 p2 => ?_
  refine h1 G.w H F2 H2 x y r1 r2 _ _ x2.stay (q1.to x2) (q2.back x1) p2 fun v F3 H3 r3 x3 q3 ⟨b, e, p3⟩ => ?_
  subst e
  cases q3
  refine ⟨b, rfl, ?_⟩
  have x123 := (x1.trans x2).trans x3
  cases b with
  | false => exact k _ F3 H3 (.im _) x123 (.bl _) p3
  | true =>
    refine dT.next S x123 xk p3 fun z F4 H4 r4 x4 q4 p4 => ?_
    refine h2 G.w H F4 H4 y z r2 r4 P Q x4.stay ((q2.back x1).to (x3.trans x4)) (q4.back x123) p4 fun v F' H' r x5 q5 p5 => ?_
    exact k v F' H' r ((x123.trans x4).trans x5) (q5.back (x123.trans x4)) p5
theorem de_chain {op op' : CmpOp} {r r' : R2} {k1 k2 : KO} (ho : OpR X (compareOp op) r) (ho' : OpR X (compareOp op') r') (h1 : OpD X.K r k1) (h2 : OpD X.K r' k2) (ha : DE X G W a wa) (hb : DE X G W b wb) (hc : DE X G W c wc)
    (hm : lastMarks [op, op'] [b, c] = false := by with_unfolding_all rfl) : DE X G W (.Compare a [op, op'] [b, c] pos) (wChain k1 k2 wa wb wc) := PE.imp (pe_chain ho ho' ha hb hc hm) fun _ _ _ h => chain_of h1 h2 h
theorem dt_chain {op op' : CmpOp} {r r' : R2} {k1 k2 : KO} (ho : OpR X (compareOp op) r) (ho' : OpR X (compareOp op') r') (h1 : OpD X.K r k1) (h2 : OpD X.K r' k2) (ha : DE X G W a wa) (hb : DE X G W b wb) (hc : DE X G W c wc)
    (hm : lastMarks [op, op'] [b, c] = false := by with_unfolding_all rfl) : DT X G W (.Compare a [op, op'] [b, c] pos) (wB (wChain k1 k2 wa wb wc)) := PT.imp (pt_chain ho ho' ha hb hc hm) fun _ _ _ h => chain_of h1 h2 (tB_of h)
/-- by truth -/
def truR : R → Option Bool
  | .im .none => some false
  | .im (.bool b) => some b
  | .im (.int i) => some (i != 0)
  | .im (.list xs) => some (!xs.isEmpty)
  | .im (.tuple xs) => some (!xs.isEmpty)
  | .ol xs => some (!xs.isEmpty)
  | .bl xs => some (!xs.isEmpty)
  | _ => none
theorem RepL.empty {vs : List V} {ds : List D} (l : RepL K F vs ds) : vs.isEmpty = ds.isEmpty := by cases l <;> rfl
theorem RepR.tru {w : Option Dw} {v : V} {r : R} {bb : Bool} (le : Sub F1 H1) (q : RepR K w H F1 H1 v r) (e : truR r = some bb) : TruV K v H1 bb := by
  have lst : ∀ {xs : List D}, r.lst = some xs → bb = !xs.isEmpty → TruV K v H1 bb := fun {xs} e1 e2 => by
    obtain ⟨a, us, rfl, ha, la⟩ := q.list le e1
    exact .inl ⟨us, ha, by rw [RepL.empty la]; exact e2⟩
  cases r with
  | im d =>
    cases d with
    | none => cases q; exact (Option.some.inj e).symm
    | bool b => cases q; exact (Option.some.inj e).symm
    | int i => cases q; exact (Option.some.inj e).symm
    | list xs => exact lst rfl (Option.some.inj e).symm
    | tuple xs =>
      obtain ⟨a, us, rfl, ha, la⟩ := q.tuple le (xs := xs) rfl
      exact .inr (.inl ⟨us, .inl (.inl (le _ _ ha)), by rw [RepL.empty la]; exact (Option.some.inj e).symm⟩)
    | _ => cases e
  | ol xs => exact lst rfl (Option.some.inj e).symm
  | bl xs => exact lst rfl (Option.some.inj e).symm
  | _ => cases e
def wTru (we : WE') : WT := fun δ P PX => we δ (fun r => ∃ b, truR r = some b ∧ P b) PX
theorem dt_tru (ha : DE X G W a wa) (he : ∀ whole, isTrue a X.env whole = (do let v ← whole; standAt a.pos; holding [v] (truthy v)) := by intro _; rfl) : DT X G W a (wTru wa) :=
  PT.imp (pt_truth ha he) fun σ H Q ⟨F, δ, P, PX, S, q, k, xk⟩ => by
    refine ⟨F, δ, _, PX, S, q, fun v F1 H1 r x1 q1 ⟨b, e, p1⟩ => ⟨b, q1.tru x1.le e, k b F1 H1 x1 p1⟩, xk⟩
end
end DW
set_option Elab.async false
set_option linter.all false
set_option maxRecDepth 100000
set_option maxHeartbeats 4000000
namespace DW
open PySem PySem.Spec L2

abbrev wTrue : WX := fun _ _ _ _ => True
section
variable {K : PySem.W.Frag} {w : Option Dw} {G : Gd} {F F1 F2 H H1 H2 : Hp} {σ : L2.St} {δ : DEnv}
variable {X : Cx} {W : WX} {st : Bool} {tg iter e a b c elt : Expr} {es rest : List Expr} {we wa wb wc : WE'} {wt wu : WT} {waa : WA} {pos p : Pos}
theorem xok_true {PX : DX → Prop} : xok K w wTrue F H σ PX := fun _ _ _ _ _ _ _ _ => trivial

/-! ### forgetting slots -/
def wipeD (δ : DEnv) : List Nat → DEnv
  | [] => δ
  | v :: vs => (wipeD δ vs).set v none
theorem RepS.drop (S : RepS K G F H σ δ) (i : Nat) : RepS K G F H (σ.set i none) (δ.set i none) := by
  refine ⟨S.ext, by rw [List.length_set, List.length_set]; exact S.len, fun j t e => ?_, fun j t p e o e2 => ?_, fun j k t u p ne e1 e2 o1 o2 e3 e4 => ?_⟩
  · by_cases h : j = i
    · subst h
      rw [List.getElem?_set] at e
      split at e
      · split at e <;> cases e
      · exact absurd rfl (by assumption)
    · rw [List.getElem?_set_ne (Ne.symm h)] at e ⊢
      exact S.slot j t e
  · by_cases h : j = i
    · subst h
      rw [List.getElem?_set] at e
      split at e
      · split at e <;> cases e
      · exact absurd rfl (by assumption)
    · rw [List.getElem?_set_ne (Ne.symm h)] at e e2
      exact S.fresh j t p e o e2
  · by_cases h : j = i
    · subst h
      rw [List.getElem?_set] at e1
      split at e1
      · split at e1 <;> cases e1
      · exact absurd rfl (by assumption)
    · by_cases h' : k = i
      · subst h'
        rw [List.getElem?_set] at e2
        split at e2
        · split at e2 <;> cases e2
        · exact absurd rfl (by assumption)
      · rw [List.getElem?_set_ne (Ne.symm h)] at e1 e3
        rw [List.getElem?_set_ne (Ne.symm h')] at e2 e4
        exact S.apart j k t u p ne e1 e2 o1 o2 e3 e4
theorem RepS.wipe (S : RepS K G F H σ δ) : ∀ vs : List Nat, RepS K G F H (L2.wipe σ vs) (wipeD δ vs)
  | [] => S
  | v :: vs => (RepS.wipe S vs).drop v
theorem wipe_in {σ : L2.St} {j : Nat} : ∀ {vs : List Nat}, j ∈ vs → j < σ.length → (L2.wipe σ vs)[j]? = some none
  | v :: vs, hj, hl => by
    unfold L2.wipe
    by_cases h : v = j
    · subst h
      exact List.getElem?_set_self (by rw [wipe_length]; exact hl)
    · rw [List.getElem?_set_ne h]
      exact wipe_in ((List.mem_cons.mp hj).resolve_left (Ne.symm h)) hl
theorem wipe_only {ts vs : List Nat} {σ σ2 : L2.St} (o : Only ts (L2.wipe σ vs) σ2) (h : ∀ t ∈ ts, t ∈ vs) : L2.wipe σ2 vs = L2.wipe σ vs := by
  apply List.ext_getElem?
  intro j
  have hl : σ2.length = σ.length := by rw [o.1, wipe_length]
  by_cases hj : j ∈ vs
  · by_cases hz : j < σ.length
    · rw [wipe_in hj hz, wipe_in hj (by rw [hl]; exact hz)]
    · rw [List.getElem?_eq_none (by rw [wipe_length]; omega), List.getElem?_eq_none (by rw [wipe_length]; omega)]
  · rw [wipe_out hj, o.2 j fun z => hj (h j z)]

/-! ### list comprehensions -/
def lcGo (wg : WG) (wt : WT) (we : WE') (P : List D → Prop) (δ0 : DEnv) : List D → List D → Prop
  | [], acc => P acc
  | d :: ds, acc => wg d δ0 fun δ1 => wt δ1 (fun b => if b = true then we δ1 (fun r => ∃ d', r.dat = some d' ∧ acc.length < sizeLine ∧ lcGo wg wt we P δ0 ds (acc ++ [d'])) (fun _ => False) else lcGo wg wt we P δ0 ds acc) (fun _ => False)
def wLc (wi : WI) (wg : WG) (wt : WT) (we : WE') (vs : List Nat) : WE' := fun δ P PX => wi δ (fun items => lcGo wg wt we (fun acc => P (.ol acc)) (wipeD δ vs) items []) PX
def wtYes : WT := fun _ P _ => P true
/-- a list of one's own is written -/
theorem Ext.write (x : Ext w F H F1 H1) {p : Addr} {u u' : HO} (h0 : H p = Option.none) (h : H1 p = some u') (n : F1 p = Option.none) (nd : ∀ d, w = some d → d.a ≠ p) : Ext w F H F1 (upd H1 p u) where
  fs := x.fs
  le := fun a o e => by rw [upd_ne (fun z => by subst z; rw [n] at e; cases e)]; exact x.le a o e
  hs := fun a o e d => by rw [upd_ne (fun z => by subst z; rw [h0] at e; cases e)]; exact x.hs a o e d
  new := x.new
  dr := fun d e => by
    have o := x.dr d e
    obtain ⟨i, r, c, z, q⟩ := o.at_
    exact ⟨o.free, ⟨i, r, c, by rw [upd_ne (nd d e)]; exact z, q⟩, o.copy, o.few, o.big⟩
theorem lc_of {wi : WI} {wg : WG} {ts vs : List Nat} {tt : TT} {te : TE} (hts : ∀ t ∈ ts, t ∈ vs) (ht : ∀ σ H Q, dTT K G wTrue wt σ H Q → tt σ H Q) (he : ∀ σ H Q, dT K G wTrue we σ H Q → te σ H Q)
    {σ : L2.St} {H : Hp} {Q : VK} (h : dT K G W (wLc wi wg wt we vs) σ H Q) : tLc (dTI K G W st wi) (dGT K G ts wg) tt te vs σ H Q := by
  obtain ⟨F, δ, P, PX, S, q, k, xk⟩ := h
  refine ⟨F, δ, _, PX, S, q, fun J C F1 H1 items x1 c1 dw stc p1 => fun D hD => ?_, xk⟩
  have x1' : Ext G.w F1 H1 F1 (upd H1 D (.lst [])) := x1.stay.own hD
  have nd : ∀ d, G.w = some d → d.a ≠ D := fun d e z => by
    obtain ⟨i, r, c, h, _⟩ := (x1.dr d e).at_
    rw [z, hD] at h; cases h
  refine ⟨fun i m H => m = items.length - i ∧ i ≤ items.length ∧ ∃ F avs acc, Ext G.w F1 H1 F H ∧ H D = some (.lst avs) ∧ F D = none ∧ RepL K F avs acc ∧ lcGo wg wt we (fun acc => P (.ol acc)) (wipeD δ vs) (items.drop i) acc,
    ⟨_, rfl, Nat.zero_le _, F1, [], [], x1', upd_same, x1.le.none hD, .nil, p1⟩, ?_⟩
  rintro i m H ⟨rfl, hi, F, avs, acc, x2, hDl, hDf, la, go⟩
  obtain ⟨w1, w2, w3⟩ := dw F H (stc.ext c1 x2) x2.stay
  by_cases hlt : i < items.length
  · refine .inr ⟨w1 i hlt, fun H' => i + 1 ≤ items.length ∧ ∃ F avs acc, Ext G.w F1 H1 F H' ∧ H' D = some (.lst avs) ∧ F D = none ∧ RepL K F avs acc ∧ lcGo wg wt we (fun acc => P (.ol acc)) (wipeD δ vs) (items.drop (i + 1)) acc,
      fun H' n => ⟨items.length - (i + 1), by omega, rfl, n⟩, fun x H' y => ?_⟩
    have hd : items[i]? = some items[i] := List.getElem?_eq_getElem hlt
    have hdrop : items.drop i = items[i] :: items.drop (i + 1) := List.drop_eq_getElem_cons hlt
    rw [hdrop] at go
    obtain ⟨F', x3, rd⟩ := w3 i x H' _ hd y
    have S' : RepS K G F' H' (L2.wipe σ vs) (wipeD δ vs) := (S.to (x1.trans (x2.trans x3))).wipe vs
    refine ⟨F', wipeD δ vs, _, _, S', rd, go, fun σ2 δ2 o2 S2 p2 => ⟨wipe_only o2 hts, ?_⟩⟩
    refine ht _ _ _ ⟨F', δ2, _, _, S2, p2, fun b F3 H3 x4 p3 => ?_, xok_true⟩
    cases b with
    | false =>
      rw [if_neg Bool.false_ne_true] at p3 ⊢
      have x5 := x3.trans x4
      obtain ⟨h', n'⟩ := x5.keepN hDl hDf nd
      exact ⟨hlt, F3, avs, acc, x2.trans x5, h', n', RepL.mono x5.fs la, p3⟩
    | true =>
      rw [if_pos rfl] at p3 ⊢
      refine he _ _ _ ⟨F3, δ2, _, _, S2.to x4, p3, fun yv F4 H4 r x5 q5 ⟨d', er, hz, p4⟩ => ?_, xok_true⟩
      obtain ⟨F5, x6, _, rd'⟩ := q5.freeze x5 er
      have x7 := (x3.trans x4).trans x6
      obtain ⟨h', n'⟩ := x7.keepN hDl hDf nd
      refine ⟨avs, h', by rw [RepL.length la]; exact hz, hlt, F5, avs ++ [yv], acc ++ [d'], (x2.trans x7).write hD h' n' nd, upd_same, n', RepL.append (RepL.mono x7.fs la) (.cons rd' .nil), p4⟩
  · have hn : i = items.length := by omega
    subst hn
    rw [List.drop_length] at go
    refine .inl ⟨w2, k _ F H (.ol acc) (x1.trans x2) ⟨D, avs, rfl, x1.none hD, hDl, hDf, nd, la⟩ go⟩
theorem de_lc {scope : Scope} {own : List (Str × Nat)} {wi : WI} {wg : WG} {ts : List Nat} (hc : X.calm = true) (hN : X.N.Nodup) (hi : DI X G W st tg iter wi) (ok : BlkOk X.N X.env.scope scope own)
    (hg : ∀ (s : Shared) (H : Hp) (C : Addr) (cl : List (Str × Addr)) (fp : List Addr), DG (X.blk s H scope (compEnvC scope cl C X.env) fp) G ts tg wg)
    (he : ∀ (s : Shared) (H : Hp) (C : Addr) (cl : List (Str × Addr)) (fp : List Addr), DE (X.blk s H scope (compEnvC scope cl C X.env) fp) G wTrue elt we)
    (hts : ∀ t ∈ ts, t ∈ own.map (·.2) := by decide) (hs : ∀ x, foldedSetIterable iter X.env x = pure x := by intro _; rfl) : DE X G W (.ListComp elt [⟨tg, iter, [], 0⟩] scope pos) (wLc wi wg wtYes we (own.map (·.2))) :=
  PE.imp (pe_lc hc hN hi ok hg (fun _ _ _ _ _ => pts_nil) he hs) fun σ H Q h => lc_of hts (fun σ H Q ⟨F, δ, P, PX, S, q, k, xk⟩ => k true F H S.ext.stay q) (fun _ _ _ h => h) h
theorem de_lcIf {scope : Scope} {own : List (Str × Nat)} {wi : WI} {wg : WG} {ts : List Nat} (hc : X.calm = true) (hN : X.N.Nodup) (hi : DI X G W st tg iter wi) (ok : BlkOk X.N X.env.scope scope own)
    (hg : ∀ (s : Shared) (H : Hp) (C : Addr) (cl : List (Str × Addr)) (fp : List Addr), DG (X.blk s H scope (compEnvC scope cl C X.env) fp) G ts tg wg)
    (ht : ∀ (s : Shared) (H : Hp) (C : Addr) (cl : List (Str × Addr)) (fp : List Addr), DT (X.blk s H scope (compEnvC scope cl C X.env) fp) G wTrue c wt)
    (he : ∀ (s : Shared) (H : Hp) (C : Addr) (cl : List (Str × Addr)) (fp : List Addr), DE (X.blk s H scope (compEnvC scope cl C X.env) fp) G wTrue elt we)
    (hts : ∀ t ∈ ts, t ∈ own.map (·.2) := by decide) (hs : ∀ x, foldedSetIterable iter X.env x = pure x := by intro _; rfl) : DE X G W (.ListComp elt [⟨tg, iter, [c], 0⟩] scope pos) (wLc wi wg wt we (own.map (·.2))) :=
  PE.imp (pe_lc hc hN hi ok hg (fun s H C cl fp => pts_one (ht s H C cl fp)) he hs) fun σ H Q h => lc_of hts (fun _ _ _ h => h) (fun _ _ _ h => h) h

/-! ### statements -/
structure DEnds where
  nx : DEnv → Prop
  rt : R → Prop
  bk : DEnv → Prop
  ct : DEnv → Prop
  ex : DX → Prop
abbrev WS := DEnds → DEnv → Prop
structure EndsOk (K : PySem.W.Frag) (G : Gd) (W : WX) (F : Hp) (E : DEnds) (D : Ends) : Prop where
  nx : ∀ σ' F' H' δ', Sub F F' → RepS K G F' H' σ' δ' → E.nx δ' → D.nx σ' H'
  bk : ∀ σ' F' H' δ', Sub F F' → RepS K G F' H' σ' δ' → E.bk δ' → D.bk σ' H'
  ct : ∀ σ' F' H' δ', Sub F F' → RepS K G F' H' σ' δ' → E.ct δ' → D.ct σ' H'
  rt : ∀ v F' H' r, Ext G.w G.F0 G.H0 F' H' → RepR K G.w G.H0 F' H' v r → E.rt r → D.rt v H'
  ex : ∀ x F' H' cls d σ', Ext G.w G.F0 G.H0 F' H' → RepX K F' H' x cls d → E.ex x → W cls d σ' H'
def dTS (K : PySem.W.Frag) (G : Gd) (W : WX) (ws : WS) : TS := fun D σ H => ∃ F δ E, RepS K G F H σ δ ∧ ws E δ ∧ EndsOk K G W F E D
abbrev DS (X : Cx) (G : Gd) (W : WX) (s : Stmt) (ws : WS) : Prop := PS X s (dTS X.K G W ws)
abbrev DSs (X : Cx) (G : Gd) (W : WX) (s : List Stmt) (ws : WS) : Prop := PSs X s (dTS X.K G W ws)
theorem PS.imp {X : Cx} {e : Stmt} {t t' : TS} (h : PS X e t) (i : ∀ σ H Q, t' σ H Q → t σ H Q) : PS X e t' := ⟨fun pins s σ H Q I q => h.run pins s σ H Q I (i Q σ H q)⟩
theorem PSs.imp {X : Cx} {e : List Stmt} {t t' : TS} (h : PSs X e t) (i : ∀ σ H Q, t' σ H Q → t σ H Q) : PSs X e t' := ⟨fun pins s σ H Q I q => h.run pins s σ H Q I (i Q σ H q)⟩
theorem EndsOk.sub {E : DEnds} {D : Ends} (k : EndsOk K G W F E D) (s : Sub F F1) : EndsOk K G W F1 E D :=
  ⟨fun σ' F' H' δ' z => k.nx σ' F' H' δ' (s.trans z), fun σ' F' H' δ' z => k.bk σ' F' H' δ' (s.trans z), fun σ' F' H' δ' z => k.ct σ' F' H' δ' (s.trans z), k.rt, k.ex⟩
theorem EndsOk.xok {E : DEnds} {D : Ends} (k : EndsOk K G W F1 E D) (S : RepS K G F H σ δ) : xok K G.w W F H σ E.ex := fun x F' H' cls d y r p => k.ex x F' H' cls d σ (S.ext.trans y) r p
def sNext : WS := fun E δ => E.nx δ
def sSeq (s t : WS) : WS := fun E δ => s { E with nx := fun δ' => t E δ' } δ
section
variable {s : Stmt} {ss body orelse : List Stmt} {ws wss : WS}
theorem ds_nil : DSs X G W [] sNext := PSs.imp pss_nil fun D σ H ⟨F, δ, E, S, p, k⟩ => k.nx σ F H δ Sub.refl S p
theorem ds_cons (h : DS X G W s ws) (hs : DSs X G W ss wss) : DSs X G W (s :: ss) (sSeq ws wss) := PSs.imp (pss_cons h hs) fun D σ H ⟨F, δ, E, S, p, k⟩ =>
  ⟨F, δ, _, S, p, fun σ' F' H' δ' z S' p' => ⟨F', δ', E, S', p', k.sub z⟩, k.bk, k.ct, k.rt, k.ex⟩
theorem ds_one (h : DS X G W s ws) : DSs X G W [s] ws := pss_one h
theorem ds_pass : DS X G W (.Pass pos) sNext := PS.imp ps_pass fun D σ H ⟨F, δ, E, S, p, k⟩ => k.nx σ F H δ Sub.refl S p
def sBreak : WS := fun E δ => E.bk δ
def sCont : WS := fun E δ => E.ct δ
theorem ds_break : DS X G W (.Break pos) sBreak := PS.imp ps_break fun D σ H ⟨F, δ, E, S, p, k⟩ => k.bk σ F H δ Sub.refl S p
theorem ds_continue : DS X G W (.Continue pos) sCont := PS.imp ps_continue fun D σ H ⟨F, δ, E, S, p, k⟩ => k.ct σ F H δ Sub.refl S p
def sIf (t : WT) (s1 s2 : WS) : WS := fun E δ => t δ (fun b => if b = true then s1 E δ else s2 E δ) E.ex
theorem ds_if (hc : DT X G W c wt) (ha : DSs X G W body ws) (hb : DSs X G W orelse wss) : DS X G W (.If c body orelse pos) (sIf wt ws wss) := PS.imp (ps_if hc ha hb) fun D σ H ⟨F, δ, E, S, p, k⟩ => by
  refine ⟨F, δ, _, _, S, p, fun b F1 H1 x1 p1 => ?_, k.xok S⟩
  cases b with
  | true => exact ⟨F1, δ, E, S.to x1, p1, k.sub x1.fs⟩
  | false => exact ⟨F1, δ, E, S.to x1, p1, k.sub x1.fs⟩
/-- x = e -/
def sSet (i : Nat) (we : WE') : WS := fun E δ => we δ (fun r => ∃ v, r.sv = some v ∧ E.nx (δ.set i (some v))) E.ex
theorem set_of {i : Nat} {D : Ends} {σ : L2.St} {H : Hp} (h : dTS K G W (sSet i we) D σ H) : tAsg (dT K G W we) (gName i) D σ H := by
  obtain ⟨F, δ, E, S, p, k⟩ := h
  exact ⟨F, δ, _, _, S, p, fun v F1 H1 r x1 q ⟨s, e, p1⟩ => k.nx _ F1 H1 _ x1.fs (S.put x1 q e) p1, k.xok S⟩
theorem ds_set {i : Nat} (h : PS X s (tAsg (dT X.K G W we) (gName i))) : DS X G W s (sSet i we) := PS.imp h fun D σ H h => set_of h
/-- x = y, y's own list goes over to x -/
def sMove (i j : Nat) : WS := fun E δ => ∃ s, δ[j]? = some (some s) ∧ s.owned = true ∧ i ≠ j ∧ i < δ.length ∧ E.nx ((δ.set j none).set i (some s))
/-- a target of data -/
def sAsg (we : WE') (wg : WG) : WS := fun E δ => we δ (fun r => ∃ d, r.dat = some d ∧ wg d δ E.nx) E.ex
theorem ds_asg {wg : WG} {ts : List Nat} (h : PS X s (tAsg (dT X.K G W we) (dGT X.K G ts wg))) : DS X G W s (sAsg we wg) := PS.imp h fun D σ H ⟨F, δ, E, S, p, k⟩ => by
  refine ⟨F, δ, _, _, S, p, fun v F1 H1 r x1 q ⟨d, e, p1⟩ => ?_, k.xok S⟩
  obtain ⟨F2, x2, _, rd⟩ := q.freeze x1 e
  exact ⟨F2, δ, d, _, S.to x2, rd, p1, fun σ' δ' _ S' p' => k.nx σ' F2 H1 δ' x2.fs S' p'⟩
/-- x op= e by an operation -/
def sAug (i : Nat) (kk : KO) (we : WE') : WS := fun E δ => ∃ s0, δ[i]? = some (some s0) ∧ we δ (fun r => kk s0.read r fun r' => ∃ v, r'.sv = some v ∧ E.nx (δ.set i (some v))) E.ex
theorem ds_aug {i : Nat} {r : R2} {kk : KO} (hk : OpD X.K r kk) (h : PS X s (tAug i (dT X.K G W we) r)) : DS X G W s (sAug i kk we) := PS.imp h fun D σ H ⟨F, δ, E, S, ⟨s0, e0, p⟩, k⟩ => by
  obtain ⟨v0, e1, r0⟩ := S.slot i s0 e0
  refine ⟨v0, e1, F, δ, _, _, S, p, fun v F1 H1 r1 x1 q p1 => ?_, k.xok S⟩
  refine hk G.w H F1 H1 v0 v _ r1 _ _ x1.stay (r0.read.to x1) q p1 fun z F2 H2 r2 x2 q2 ⟨sv, e2, p2⟩ => ?_
  exact k.nx _ F2 H2 _ (x1.trans x2).fs (S.put (x1.trans x2) (q2.back x1) e2) p2
/-- an expression is dropped -/
def sDrop (we : WE') : WS := fun E δ => we δ (fun _ => E.nx δ) E.ex
theorem ds_expr (h : PS X s (tDrop (dT X.K G W we))) : DS X G W s (sDrop we) := PS.imp h fun D σ H ⟨F, δ, E, S, p, k⟩ =>
  ⟨F, δ, _, _, S, p, fun v F1 H1 r x1 q p1 => k.nx σ F1 H1 δ x1.fs (S.to x1) p1, k.xok S⟩
/-- return e: what is borrowed is not handed back -/
def R.given : R → Bool
  | .bl _ => false
  | .bK _ => false
  | .bT _ => false
  | _ => true
def sRet (we : WE') : WS := fun E δ => we δ E.rt E.ex
theorem ds_ret (h : PS X s (tRet (dT X.K G W we))) : DS X G W s (sRet we) := PS.imp h fun D σ H ⟨F, δ, E, S, p, k⟩ =>
  ⟨F, δ, _, _, S, p, fun v F1 H1 r x1 q p1 => k.rt v F1 H1 r (S.ext.trans x1) (q.back S.ext) p1, k.xok S⟩
/-- return x, x a local's own list, dict -/
def sRetV (i : Nat) : WS := fun E δ => ∃ s, δ[i]? = some (some s) ∧ E.rt (match s with | .im d => .im d | .ol xs => .ol xs | .oK kvs => .oK kvs | .oT kvs => .oT kvs | .drw => .drw)
theorem ds_retV {i : Nat} (h : PS X s (tRet (tVar i))) : DS X G W s (sRetV i) := PS.imp h fun D σ H ⟨F, δ, E, S, ⟨s0, e0, p⟩, k⟩ => by
  obtain ⟨v0, e1, r0⟩ := S.slot i s0 e0
  refine ⟨v0, e1, k.rt v0 F H _ S.ext ?_ p⟩
  cases s0 with
  | im d => exact r0
  | ol xs => obtain ⟨p, vs, rfl, h, n, nd, l⟩ := r0; exact ⟨p, vs, rfl, S.fresh i _ p e0 rfl e1, h, n, nd, l⟩
  | oK xs => obtain ⟨p, vs, rfl, h, n, nd, l⟩ := r0; exact ⟨p, vs, rfl, S.fresh i _ p e0 rfl e1, h, n, nd, l⟩
  | oT xs => obtain ⟨p, vs, rfl, h, n, nd, l⟩ := r0; exact ⟨p, vs, rfl, S.fresh i _ p e0 rfl e1, h, n, nd, l⟩
  | drw => exact r0
/-- a ghost step: a local's own list is frozen ahead of a statement -/
def sFreeze (i : Nat) (ws : WS) : WS := fun E δ => ∃ xs, δ[i]? = some (some (.ol xs)) ∧ ws E (δ.set i (some (.im (.list xs))))
theorem RepS.freeze {i : Nat} {xs : List D} (S : RepS K G F H σ δ) (e : δ[i]? = some (some (.ol xs))) : ∃ F2, Sub F F2 ∧ RepS K G F2 H σ (δ.set i (some (.im (.list xs)))) := by
  obtain ⟨v0, e1, p, vs, rfl, h, n, nd, l⟩ := S.slot i _ e
  have h0 := S.fresh i _ p e rfl e1
  refine ⟨upd F p (.lst vs), upd_grow n, S.ext.freeze h0 h n nd, by rw [List.length_set]; exact S.len, fun j t ej => ?_, fun j t p' ej o e2 => ?_, fun j k t u p' ne ej ek o1 o2 e3 e4 => ?_⟩
  · by_cases hj : j = i
    · subst hj
      have hl : j < δ.length := (List.getElem?_eq_some_iff.mp e).1
      rw [List.getElem?_set_self hl] at ej
      cases ej
      exact ⟨_, e1, .lst upd_same (RepL.mono (upd_grow n) l)⟩
    · rw [List.getElem?_set_ne (Ne.symm hj)] at ej
      obtain ⟨v, e2, r⟩ := S.slot j t ej
      refine ⟨v, e2, ?_⟩
      have off : ∀ q, v = .ref q → t.owned = true → q ≠ p := fun q eq o z => by
        subst z
        rw [eq] at e2
        exact S.apart j i t _ q hj ej e o rfl e2 e1
      cases t with
      | im d => exact RepD.mono (upd_grow n) r
      | ol ys => obtain ⟨q, us, rfl, hq, nq, ndq, lq⟩ := r; exact ⟨q, us, rfl, hq, by rw [upd_ne (off q rfl rfl)]; exact nq, ndq, RepL.mono (upd_grow n) lq⟩
      | oK ys => obtain ⟨q, us, rfl, hq, nq, ndq, lq⟩ := r; exact ⟨q, us, rfl, hq, by rw [upd_ne (off q rfl rfl)]; exact nq, ndq, lq.mono (upd_grow n)⟩
      | oT ys => obtain ⟨q, us, rfl, hq, nq, ndq, lq⟩ := r; exact ⟨q, us, rfl, hq, by rw [upd_ne (off q rfl rfl)]; exact nq, ndq, lq.mono (upd_grow n)⟩
      | drw => exact r
  · by_cases hj : j = i
    · subst hj
      have hl : j < δ.length := (List.getElem?_eq_some_iff.mp e).1
      rw [List.getElem?_set_self hl] at ej
      cases ej; cases o
    · rw [List.getElem?_set_ne (Ne.symm hj)] at ej
      exact S.fresh j t p' ej o e2
  · by_cases hj : j = i
    · subst hj
      have hl : j < δ.length := (List.getElem?_eq_some_iff.mp e).1
      rw [List.getElem?_set_self hl] at ej
      cases ej; cases o1
    · by_cases hk : k = i
      · subst hk
        have hl : k < δ.length := (List.getElem?_eq_some_iff.mp e).1
        rw [List.getElem?_set_self hl] at ek
        cases ek; cases o2
      · rw [List.getElem?_set_ne (Ne.symm hj)] at ej
        rw [List.getElem?_set_ne (Ne.symm hk)] at ek
        exact S.apart j k t u p' ne ej ek o1 o2 e3 e4
theorem ds_freeze {i : Nat} (h : DS X G W s ws) : DS X G W s (sFreeze i ws) := PS.imp h fun D σ H ⟨F, δ, E, S, ⟨xs, e, p⟩, k⟩ => by
  obtain ⟨F2, z, S2⟩ := S.freeze e
  exact ⟨F2, _, E, S2, p, k.sub z⟩
end
end
end DW
set_option Elab.async false
set_option linter.all false
set_option maxRecDepth 100000
set_option maxHeartbeats 4000000
namespace DW
open PySem PySem.Spec L2

section
variable {K : PySem.W.Frag} {w : Option Dw} {G : Gd} {F F1 F2 H H1 H2 : Hp} {σ : L2.St} {δ : DEnv}
variable {X : Cx} {W : WX} {st : Bool} {tg iter e a b c elt : Expr} {es rest : List Expr} {we wa wb wc wk : WE'} {wt wu : WT} {waa : WA} {pos p : Pos} {s : Stmt} {ws wss : WS}
/-! ### writing a local's own list or dict -/
def SVAt (K : PySem.W.Frag) (F : Hp) (u : HO) : SV → Prop
  | .im _ => False
  | .ol xs => ∃ vs, u = .lst vs ∧ RepL K F vs xs
  | .oK kvs => ∃ vs, u = .dK vs ∧ RepKV K F vs kvs
  | .oT kvs => ∃ vs, u = .dT vs ∧ RepKV K F vs kvs
  | .drw => False
theorem RepS.mut {i : Nat} {s0 s1 : SV} {p : Addr} {u : HO} (S : RepS K G F H σ δ) (e : δ[i]? = some (some s0)) (o : s0.owned = true) (ep : σ[i]? = some (some (.ref p))) (n : SVAt K F u s1) :
    RepS K G F (upd H p u) σ (δ.set i (some s1)) := by
  obtain ⟨v0, e1, r0⟩ := S.slot i s0 e
  rw [ep] at e1
  cases e1
  obtain ⟨p', u0, eq, h, nf, nd⟩ := r0.own_at o
  cases eq
  have h0 := S.fresh i s0 p e o ep
  have hl : i < δ.length := (List.getElem?_eq_some_iff.mp e).1
  refine ⟨S.ext.write h0 h nf nd, by rw [List.length_set]; exact S.len, fun j t ej => ?_, fun j t p' ej oj e2 => ?_, fun j k t t' p' ne ej ek o1 o2 e3 e4 => ?_⟩
  · by_cases hj : j = i
    · subst hj
      rw [List.getElem?_set_self hl] at ej
      cases ej
      refine ⟨_, ep, ?_⟩
      cases s1 with
      | im d => exact n.elim
      | ol xs => obtain ⟨vs, rfl, l⟩ := n; exact ⟨p, vs, rfl, upd_same, nf, nd, l⟩
      | oK xs => obtain ⟨vs, rfl, l⟩ := n; exact ⟨p, vs, rfl, upd_same, nf, nd, l⟩
      | oT xs => obtain ⟨vs, rfl, l⟩ := n; exact ⟨p, vs, rfl, upd_same, nf, nd, l⟩
      | drw => exact n.elim
    · rw [List.getElem?_set_ne (Ne.symm hj)] at ej
      obtain ⟨v, e2, r⟩ := S.slot j t ej
      refine ⟨v, e2, ?_⟩
      have off : ∀ q, v = .ref q → t.owned = true → q ≠ p := fun q eq oq z => by
        subst z
        rw [eq] at e2
        exact S.apart j i t s0 q hj ej e oq o e2 ep
      cases t with
      | im d => exact r
      | ol ys => obtain ⟨q, us, rfl, hq, nq, ndq, lq⟩ := r; exact ⟨q, us, rfl, by rw [upd_ne (off q rfl rfl)]; exact hq, nq, ndq, lq⟩
      | oK ys => obtain ⟨q, us, rfl, hq, nq, ndq, lq⟩ := r; exact ⟨q, us, rfl, by rw [upd_ne (off q rfl rfl)]; exact hq, nq, ndq, lq⟩
      | oT ys => obtain ⟨q, us, rfl, hq, nq, ndq, lq⟩ := r; exact ⟨q, us, rfl, by rw [upd_ne (off q rfl rfl)]; exact hq, nq, ndq, lq⟩
      | drw => exact r
  · by_cases hj : j = i
    · subst hj
      rw [ep] at e2
      cases e2
      exact h0
    · rw [List.getElem?_set_ne (Ne.symm hj)] at ej
      exact S.fresh j t p' ej oj e2
  · by_cases hj : j = i
    · subst hj
      by_cases hk : k = j
      · exact ne hk.symm
      · rw [List.getElem?_set_ne (Ne.symm hk)] at ek
        exact S.apart j k s0 t' p' ne e ek o o2 e3 e4
    · rw [List.getElem?_set_ne (Ne.symm hj)] at ej
      by_cases hk : k = i
      · subst hk
        exact S.apart j k t s0 p' ne ej e o1 o e3 e4
      · rw [List.getElem?_set_ne (Ne.symm hk)] at ek
        exact S.apart j k t t' p' ne ej ek o1 o2 e3 e4
/-- xs.append(e) -/
def sAppend (i : Nat) (we : WE') : WS := fun E δ => ∃ xs, δ[i]? = some (some (.ol xs)) ∧ we δ (fun r => ∃ d, r.dat = some d ∧ xs.length < sizeLine ∧ E.nx (δ.set i (some (.ol (xs ++ [d]))))) E.ex
theorem ds_append {i : Nat} (h : PS X s (tDrop (tBM X.K "list" rAppend (tVar i) (tCons (dT X.K G W we) tNil)))) : DS X G W s (sAppend i we) := PS.imp h fun D σ H ⟨F, δ, E, S, ⟨xs, e, p⟩, k⟩ => by
  obtain ⟨v0, e1, pp, vs, rfl, hp, nf, nd, l⟩ := S.slot i _ e
  refine ⟨_, e1, .inl ⟨rfl, vs, SqL.of hp⟩, F, δ, _, _, S, p, fun v F1 H1 r x1 q ⟨d, er, hz, p1⟩ => ?_, k.xok S⟩
  obtain ⟨F2, x2, _, rd⟩ := q.freeze x1 er
  obtain ⟨h', n'⟩ := x2.keepN hp nf nd
  refine ⟨pp, vs, v, rfl, rfl, h', by rw [RepL.length l]; exact hz, ?_⟩
  exact k.nx σ F2 _ _ x2.fs ((S.to x2).mut (s1 := .ol (xs ++ [d])) e rfl e1 ⟨_, rfl, RepL.append (RepL.mono x2.fs l) (.cons rd .nil)⟩) p1
/-- xs.extend(e), e a list of one's own -/
def sExtend (i : Nat) (we : WE') : WS := fun E δ => ∃ xs, δ[i]? = some (some (.ol xs)) ∧ we δ (fun r => ∃ ys, r.own = some ys ∧ xs.length + ys.length ≤ sizeLine ∧ E.nx (δ.set i (some (.ol (xs ++ ys))))) E.ex
theorem ds_extend {i : Nat} (h : PS X s (tDrop (tBM X.K "list" rExtend (tVar i) (tCons (dT X.K G W we) tNil)))) : DS X G W s (sExtend i we) := PS.imp h fun D σ H ⟨F, δ, E, S, ⟨xs, e, p⟩, k⟩ => by
  obtain ⟨v0, e1, pp, vs, rfl, hp, nf, nd, l⟩ := S.slot i _ e
  refine ⟨_, e1, .inl ⟨rfl, vs, SqL.of hp⟩, F, δ, _, _, S, p, fun v F1 H1 r x1 q ⟨ys, er, hz, p1⟩ => ?_, k.xok S⟩
  obtain ⟨b, us, rfl, hb, lb⟩ := q.owns x1.le er
  obtain ⟨h', n'⟩ := x1.keepN hp nf nd
  refine ⟨pp, b, vs, us, rfl, rfl, h', hb, by rw [RepL.length l, RepL.length lb]; exact hz, ?_⟩
  exact k.nx σ F1 _ _ x1.fs ((S.to x1).mut (s1 := .ol (xs ++ ys)) e rfl e1 ⟨_, rfl, RepL.append (RepL.mono x1.fs l) lb⟩) p1
/-- target = xs.pop() -/
def sPop (j : Nat) (wg : WG) : WS := fun E δ => ∃ xs d, δ[j]? = some (some (.ol xs)) ∧ xs[xs.length - 1]? = some d ∧ wg d (δ.set j (some (.ol xs.dropLast))) E.nx
theorem ds_pop {j : Nat} {wg : WG} {ts : List Nat} (h : PS X s (tAsg (tBM0 X.K "list" rPop (tVar j)) (dGT X.K G ts wg))) : DS X G W s (sPop j wg) := PS.imp h fun D σ H ⟨F, δ, E, S, ⟨xs, d, e, ed, p⟩, k⟩ => by
  obtain ⟨v0, e1, pp, vs, rfl, hp, nf, nd, l⟩ := S.slot j _ e
  obtain ⟨v, ev, rd⟩ := RepL.get l ed
  refine ⟨_, e1, .inl ⟨rfl, vs, SqL.of hp⟩, pp, vs, v, rfl, rfl, hp, by rw [RepL.length l]; exact ev, ?_⟩
  exact ⟨F, _, d, _, S.mut (s1 := .ol xs.dropLast) e rfl e1 ⟨_, rfl, RepL.dropLast l⟩, rd, p, fun σ' δ' _ S' p' => k.nx σ' F _ δ' Sub.refl S' p'⟩
/-- target = xs.pop(0) -/
def sPop0 (j : Nat) (wg : WG) : WS := fun E δ => ∃ d xs, δ[j]? = some (some (.ol (d :: xs))) ∧ wg d (δ.set j (some (.ol xs))) E.nx
theorem ds_pop0 {j : Nat} {wg : WG} {ts : List Nat} (h : PS X s (tAsg (tBM X.K "list" rPopAt (tVar j) (tCons (tC (.int 0)) tNil)) (dGT X.K G ts wg))) : DS X G W s (sPop0 j wg) := PS.imp h fun D σ H ⟨F, δ, E, S, ⟨d, xs, e, p⟩, k⟩ => by
  obtain ⟨v0, e1, pp, vs, rfl, hp, nf, nd, l⟩ := S.slot j _ e
  cases l with
  | cons rd l =>
    rename_i v vr
    refine ⟨_, e1, .inl ⟨rfl, _, SqL.of hp⟩, pp, v :: vr, 0, 0, v, rfl, rfl, hp, by decide, by decide, ?_, rfl, ?_⟩
    · have : (vr.length : Nat) + 1 > 0 := Nat.succ_pos _
      first | rfl | (simp [seqIndex?])
    · exact ⟨F, _, d, _, S.mut (s1 := .ol xs) e rfl e1 ⟨_, rfl, l⟩, rd, p, fun σ' δ' _ S' p' => k.nx σ' F _ δ' Sub.refl S' p'⟩
/-- d[k] = v, d a local's own dict -/
def putE (s : SV) (kd : D) (d : D) (P : SV → Prop) : Prop := match s with
  | .oK kvs => ∃ k, keyOf kd = some k ∧ kvs.length < sizeLine ∧ P (.oK (putD kvs k d))
  | .oT kvs => ∃ ds ks, kd = .tuple ds ∧ keysOf ds = some ks ∧ kvs.length < sizeLine ∧ P (.oT (putD kvs ks d))
  | _ => False
def sPut (i : Nat) (wk wv : WE') : WS := fun E δ => ∃ s0, δ[i]? = some (some s0) ∧ wv δ (fun r => ∃ d, r.dat = some d ∧ wk δ (fun r2 => ∃ kd, r2 = .im kd ∧ putE s0 kd d fun s1 => E.nx (δ.set i (some s1))) E.ex) E.ex
theorem ds_put {i : Nat} (h : PS X s (sDPut (tVar i) (dT X.K G W wk) (dT X.K G W we))) : DS X G W s (sPut i wk we) := PS.imp h fun D σ H ⟨F, δ, E, S, ⟨s0, e0, p⟩, k⟩ => by
  refine ⟨F, δ, _, _, S, p, fun v F1 H1 r x1 q ⟨d, er, p1⟩ => ?_, k.xok S⟩
  obtain ⟨F2, x2, _, rd⟩ := q.freeze x1 er
  have S2 := S.to x2
  obtain ⟨v0, e1, r0⟩ := S2.slot i s0 e0
  refine ⟨v0, e1, dT.next S x2 (k.xok S) p1 fun kv F3 H3 r2 x3 q3 ⟨kd, ek, pe⟩ => ?_⟩
  subst ek
  have S3 := S2.to x3
  have r0' := r0.ext x3
  cases s0 with
  | oK kvs =>
    obtain ⟨kk, ek, hl, p3⟩ := pe
    obtain ⟨pp, vs, rfl, hp, nf, nd, l⟩ := r0'
    obtain rfl := RepD.key q3 ek
    exact ⟨pp, _, rfl, DPut.k hp (by rw [RepKV.length l]; exact hl), k.nx σ F3 _ _ (x2.trans x3).fs (S3.mut (s1 := .oK (putD kvs kk d)) e0 rfl e1 ⟨_, rfl, l.put (RepD.mono x3.fs rd)⟩) p3⟩
  | oT kvs =>
    obtain ⟨ds, ks, rfl, ek, hl, p3⟩ := pe
    obtain ⟨pp, vs, rfl, hp, nf, nd, l⟩ := r0'
    obtain ⟨b, us, rfl, hb, lb⟩ := RepR.tuple (K := X.K) (w := G.w) (H := H1) x3.le q3 (xs := ds) rfl
    obtain rfl := RepL.keys lb ek
    exact ⟨pp, _, rfl, DPut.t hp (x3.le _ _ hb) (by rw [RepKV.length l]; exact hl), k.nx σ F3 _ _ (x2.trans x3).fs (S3.mut (s1 := .oT (putD kvs ks d)) e0 rfl e1 ⟨_, rfl, l.put (RepD.mono x3.fs rd)⟩) p3⟩
  | _ => exact pe.elim

/-! ### loops -/
def forGo (wg : WG) (wb : WS) (E : DEnds) : List D → DEnv → Prop
  | [], δ => E.nx δ
  | d :: ds, δ => wg d δ fun δ1 => wb { E with nx := forGo wg wb E ds, ct := forGo wg wb E ds, bk := E.nx } δ1
def sFor (wi : WI) (wg : WG) (wb : WS) : WS := fun E δ => wi δ (fun items => forGo wg wb E items δ) E.ex
theorem ds_for {wi : WI} {wg : WG} {wb : WS} {ts : List Nat} (h : PS X s (tFor (dTI X.K G W true wi) (dGT X.K G ts wg) (dTS X.K G W wb))) : DS X G W s (sFor wi wg wb) := PS.imp h fun D σ H ⟨F, δ, E, S, p, k⟩ => by
  refine ⟨F, δ, _, _, S, p, fun J C F1 H1 items x1 c1 dw stc p1 => ?_, k.xok S⟩
  refine ⟨fun i m σ H => m = items.length - i ∧ i ≤ items.length ∧ ∃ F δ, Sub F1 F ∧ RepS X.K G F H σ δ ∧ forGo wg wb E (items.drop i) δ, ⟨_, rfl, Nat.zero_le _, F1, δ, Sub.refl, S.to x1, p1⟩, ?_⟩
  rintro i m σ H ⟨rfl, hi, F', δ', sb, S', go⟩
  have c' : C F' H := by
    have := stc
    unfold StC at this
    rw [if_pos rfl] at this
    exact this F1 H1 F' H c1 sb S'.ext.le
  obtain ⟨w1, w2, w3⟩ := dw F' H c' S'.ext.stay
  by_cases hlt : i < items.length
  · refine .inr ⟨w1 i hlt, fun σ'' H'' => i + 1 ≤ items.length ∧ ∃ F δ, Sub F1 F ∧ RepS X.K G F H'' σ'' δ ∧ forGo wg wb E (items.drop (i + 1)) δ, fun σ'' H'' n => ⟨items.length - (i + 1), by omega, rfl, n⟩, fun x H' y => ?_⟩
    have hd : items[i]? = some items[i] := List.getElem?_eq_getElem hlt
    have hdrop : items.drop i = items[i] :: items.drop (i + 1) := List.drop_eq_getElem_cons hlt
    rw [hdrop] at go
    obtain ⟨F2, x2, rd⟩ := w3 i x H' _ hd y
    refine ⟨F2, δ', _, _, S'.to x2, rd, go, fun σ2 δ2 _ S2 p2 => ⟨F2, δ2, _, S2, p2, ?_⟩⟩
    have sb2 : Sub F1 F2 := sb.trans x2.fs
    have sbF : Sub F F2 := x1.fs.trans sb2
    exact ⟨fun σ3 F3 H3 δ3 z S3 p3 => ⟨hlt, F3, δ3, sb2.trans z, S3, p3⟩, fun σ3 F3 H3 δ3 z S3 p3 => k.nx σ3 F3 H3 δ3 (sbF.trans z) S3 p3, fun σ3 F3 H3 δ3 z S3 p3 => ⟨hlt, F3, δ3, sb2.trans z, S3, p3⟩, k.rt, k.ex⟩
  · have hn : i = items.length := by omega
    subst hn
    rw [List.drop_length] at go
    exact .inl ⟨w2, k.nx σ F' H δ' (x1.fs.trans sb) S' go⟩
def sWhile (wt : WT) (wb : WS) : WS := fun E δ => ∃ I : Nat → DEnv → Prop, (∃ m, I m δ) ∧ ∀ m δ, I m δ →
  wt δ (fun b => if b = true then wb { E with nx := fun δ' => ∃ m', m' < m ∧ I m' δ', ct := fun δ' => ∃ m', m' < m ∧ I m' δ', bk := E.nx } δ else E.nx δ) E.ex
theorem ds_while {wb : WS} (h : PS X s (tWhile (dTT X.K G W wt) (dTS X.K G W wb))) : DS X G W s (sWhile wt wb) := PS.imp h fun D σ H ⟨F, δ, E, S, ⟨I, ⟨m0, i0⟩, turn⟩, k⟩ => by
  refine ⟨fun m σ H => ∃ F' δ', Sub F F' ∧ RepS X.K G F' H σ δ' ∧ I m δ', ⟨m0, F, δ, Sub.refl, S, i0⟩, ?_⟩
  rintro m σ' H' ⟨F', δ', sb, S', im⟩
  refine ⟨F', δ', _, _, S', turn m δ' im, fun b F1 H1 x1 p1 => ?_, (k.sub sb).xok S'⟩
  cases b with
  | false =>
    rw [if_neg Bool.false_ne_true] at p1 ⊢
    exact k.nx σ' F1 H1 δ' (sb.trans x1.fs) (S'.to x1) p1
  | true =>
    rw [if_pos rfl] at p1 ⊢
    have sb1 := sb.trans x1.fs
    refine ⟨fun σ2 H2 => ∃ m', m' < m ∧ ∃ F' δ', Sub F F' ∧ RepS X.K G F' H2 σ2 δ' ∧ I m' δ', fun σ2 H2 n => n, F1, δ', _, S'.to x1, p1, ?_⟩
    exact ⟨fun σ3 F3 H3 δ3 z S3 ⟨m', hm, p3⟩ => ⟨m', hm, F3, δ3, sb1.trans z, S3, p3⟩, fun σ3 F3 H3 δ3 z S3 p3 => k.nx σ3 F3 H3 δ3 (sb1.trans z) S3 p3, fun σ3 F3 H3 δ3 z S3 ⟨m', hm, p3⟩ => ⟨m', hm, F3, δ3, sb1.trans z, S3, p3⟩, k.rt, k.ex⟩

/-! ### calls of defs -/
abbrev DSpec := List R → (R → Prop) → (DX → Prop) → Prop
def plainR : R → Bool
  | .im _ => true
  | .drw => true
  | _ => false
theorem RepR.any {v : V} {r : R} {H' : Hp} (q : RepR K w H F1 H1 v r) (g : plainR r = true) : RepR K w H' F1 H1 v r := by
  cases r with
  | im d => exact q
  | drw => exact q
  | _ => cases g
theorem RepRs.any {vs : List V} {rs : List R} {H' : Hp} (q : RepRs K w H F1 H1 vs rs) (g : rs.all plainR = true) : RepRs K w H' F1 H1 vs rs := by
  induction q with
  | nil => exact .nil
  | cons r _ ih =>
    rw [List.all_cons, Bool.and_eq_true] at g
    exact .cons (r.any g.1) (ih g.2)
theorem RepRs.length {vs : List V} {rs : List R} (q : RepRs K w H F1 H1 vs rs) : vs.length = rs.length := by
  induction q with
  | nil => rfl
  | cons _ _ ih => rw [List.length_cons, List.length_cons, ih]
/-- the promise of a def over data: n arguments, data or the drawer -/
def dSp (K : PySem.W.Frag) (n : Nat) (S : DSpec) : Sp := fun vs H Q E => ∃ w F rs P PX, Ext w F H F H ∧ RepRs K w H F H vs rs ∧ rs.all plainR = true ∧ rs.length = n ∧ S rs P PX ∧
  (∀ v F' H' r, Ext w F H F' H' → RepR K w H F' H' v r → r.given = true → P r → Q v H') ∧ (∀ x F' H' cls d, Ext w F H F' H' → RepX K F' H' x cls d → PX x → E cls d H')
theorem dSp_len {n : Nat} {S : DSpec} (vs : List V) (H : Hp) (Q : VK) (E : XK) (h : dSp K n S vs H Q E) : vs.length = n := by
  obtain ⟨w, F, rs, P, PX, x, q, g, hn, _⟩ := h
  rw [q.length, hn]
def wCallF (n : Nat) (S : DSpec) (wa : WA) : WE' := fun δ P PX => wa δ (fun rs => rs.all plainR = true ∧ rs.length = n ∧ S rs (fun r => r.given = true → P r) PX) PX
theorem callF_of {n : Nat} {S : DSpec} {σ : L2.St} {H : Hp} {Q : VK} (h : dT K G W (wCallF n S waa) σ H Q) : dTA K G W waa σ H fun vs H1 => dSp K n S vs H1 Q (WE W σ) := by
  obtain ⟨F, δ, P, PX, S', p, k, xk⟩ := h
  refine ⟨F, δ, _, PX, S', p, fun vs F1 H1 rs x1 q ⟨g, hn, p1⟩ => ?_, xk⟩
  exact ⟨G.w, F1, rs, _, PX, x1.stay, q.any g, g, hn, p1, fun v F' H' r x2 q2 gv p2 => k v F' H' r (x1.trans x2) (q2.back x1) (p2 gv), fun x F' H' cls d x2 r px => xk x F' H' cls d (x1.trans x2) r px⟩
/-- a def that lets nothing out -/
theorem de_call {n : Nat} {S : DSpec} {E : XK} (h : PE X e (tCall (dSp X.K n S) [] E (dTA X.K G W waa))) (hS : ∀ rs P PX PX', S rs P PX → S rs P PX') : DE X G W e (wCallF n S waa) := PE.imp h fun σ H Q hq => by
  obtain ⟨F, δ, P, PX, S', p, k, xk⟩ := hq
  refine ⟨F, δ, _, PX, S', p, fun vs F1 H1 rs x1 q ⟨g, hn, p1⟩ => ?_, xk⟩
  show dSp X.K n S (vs ++ []) H1 Q E
  rw [List.append_nil]
  exact ⟨G.w, F1, rs, _, fun _ => False, x1.stay, q.any g, g, hn, hS _ _ _ _ p1, fun v F' H' r x2 q2 gv p2 => k v F' H' r (x1.trans x2) (q2.back x1) (p2 gv), fun x F' H' cls d x2 r px => px.elim⟩
theorem de_callX {n : Nat} {S : DSpec} (h : PE X e (tCallS (dSp X.K n S) (WE W) (dTA X.K G W waa))) : DE X G W e (wCallF n S waa) := PE.imp h fun σ H Q hq => callF_of hq
end
end DW
set_option Elab.async false
set_option linter.all false
set_option maxRecDepth 100000
set_option maxHeartbeats 4000000
namespace DW
open PySem PySem.Spec L2

section
variable {K : PySem.W.Frag} {w : Option Dw} {G : Gd} {F F1 F2 H H1 H2 : Hp} {σ : L2.St} {δ : DEnv}
variable {X : Cx} {W : WX} {st : Bool} {tg iter e a b c elt o : Expr} {es rest : List Expr} {we wa wb wc wk wo : WE'} {wt wu : WT} {waa : WA} {pos p apos cpos : Pos} {s : Stmt} {ws wss : WS}
/-! ### tuple(xs), any, all, max -/
def kTupOf : KC := fun rs P => match rs with
  | [.im (.tuple xs)] => P (.im (.tuple xs))
  | [r] => ∃ xs, r.lst = some xs ∧ P (.im (.tuple xs))
  | _ => False
theorem callD_tuple : CallD K (fun xs H Q => ∃ p ys, xs = [.ref p] ∧ ((SqL K H p ys ∧ ∀ l, H l = none → Q (.ref l) (upd H l (.tup ys))) ∨ (SqT K H p ys ∧ Q (.ref p) H))) kTupOf := by
  intro w H0 F H vs rs P Q x0 q h k
  unfold kTupOf at h
  split at h
  · rename_i xs
    cases q with
    | cons a t =>
      cases t
      obtain ⟨b, us, rfl, hb, lb⟩ := RepR.tuple (K := K) (w := w) (H := H0) x0.le a (xs := xs) rfl
      exact ⟨b, us, rfl, .inr ⟨.inl (.inl (x0.le _ _ hb)), k _ F H (.im (.tuple xs)) x0 a h⟩⟩
  · rename_i r hne
    obtain ⟨xs, e, p⟩ := h
    cases q with
    | cons a t =>
      cases t
      obtain ⟨b, us, rfl, hb, lb⟩ := a.list x0.le e
      refine ⟨b, us, rfl, .inl ⟨hb, fun l hl => ?_⟩⟩
      obtain ⟨x1, r1⟩ := new_tup (K := K) x0 hl lb
      exact k _ _ _ _ x1 r1 p
  · exact h.elim
theorem RepL.isBools : ∀ {bs : List Bool} {vs : List V}, RepL K F vs (bs.map PyData.bool) → vs = bs.map V.bl
  | [], _, h => by cases h; rfl
  | n :: r, _, h => by
    rw [List.map_cons] at h
    cases h with
    | cons a t => cases a; rw [RepL.isBools t]; rfl
def kAny : KC := fun rs P => ∃ (r : R) (bs : List Bool), rs = [r] ∧ r.lst = some (bs.map PyData.bool) ∧ P (.im (.bool (bs.any id)))
def kAll : KC := fun rs P => ∃ (r : R) (bs : List Bool), rs = [r] ∧ r.lst = some (bs.map PyData.bool) ∧ P (.im (.bool (bs.all id)))
theorem callD_any : CallD K (rAny K) kAny := by
  rintro w H0 F H vs rs P Q x0 q ⟨r, bs, rfl, e, p⟩ k
  cases q with
  | cons a t =>
    cases t
    obtain ⟨b, us, rfl, hb, lb⟩ := a.list x0.le e
    rw [RepL.isBools lb] at hb
    exact ⟨b, bs, rfl, hb, k _ F H (.im _) x0 (.bl _) p⟩
theorem callD_all : CallD K (rAll K) kAll := by
  rintro w H0 F H vs rs P Q x0 q ⟨r, bs, rfl, e, p⟩ k
  cases q with
  | cons a t =>
    cases t
    obtain ⟨b, us, rfl, hb, lb⟩ := a.list x0.le e
    rw [RepL.isBools lb] at hb
    exact ⟨b, bs, rfl, hb, k _ F H (.im _) x0 (.bl _) p⟩
def kMax2 : KC := fun rs P => ∃ i j : Int, rs = [.im (.int i), .im (.int j)] ∧ P (.im (.int (if j > i then j else i)))
theorem callD_max2 : CallD K (fun xs H Q => ∃ i j, xs = [.int i, .int j] ∧ Q (.int (if j > i then j else i)) H) kMax2 := by
  rintro w H0 F H vs rs P Q x0 q ⟨i, j, rfl, p⟩ k
  cases q with
  | cons a t =>
    cases t with
    | cons b u => cases u; cases a; cases b; exact ⟨i, j, rfl, k _ F H (.im _) x0 (.int _) p⟩
def kMaxL : KC := fun rs P => ∃ (r : R) (ns : List Int), rs = [r] ∧ r.lst = some (ns.map PyData.int) ∧ 0 < ns.length ∧ ∀ m, m ∈ ns → (∀ y, y ∈ ns → y ≤ m) → P (.im (.int m))
theorem callD_maxL : CallD K (rMax K) kMaxL := by
  rintro w H0 F H vs rs P Q x0 q ⟨r, ns, rfl, e, hn, p⟩ k
  cases q with
  | cons a t =>
    cases t
    obtain ⟨b, us, rfl, hb, lb⟩ := a.list x0.le e
    rw [RepL.isInts lb] at hb
    exact ⟨b, ns, rfl, hb, hn, fun m h1 h2 => k _ F H (.im _) x0 (.int _) (p m h1 h2)⟩
/-- by a built-in's name -/
theorem de_callB {r : List V → Hp → VK → Prop} {k : KC} (h : PE X e (tCB r (dTA X.K G W waa))) (hk : CallD X.K r k) : DE X G W e (wCall k waa) := PE.imp h fun _ _ _ h => tCB_of hk h

/-! ### tuple(range(..)) -/
def wTupR1 (wa : WE') : WE' := fun δ P PX => wa δ (fun r => ∃ n : Int, r = .im (.int n) ∧ 0 ≤ n ∧ n ≤ 16777216 ∧ P (.im (.tuple (intsD 0 n.toNat)))) PX
theorem RepL.rg : ∀ {lo : Int} {n : Nat}, RepL K F ((List.range n).map fun i => V.int (lo + (i : Nat))) (intsD lo n) := by
  intro lo n
  unfold intsD
  induction (List.range n) with
  | nil => exact .nil
  | cons i r ih => exact .cons (.int _) ih
theorem de_tupR1 (hc : X.calm = true) (hg : Gl X "tuple") (hm : X.mg "tuple" = none) (hg2 : Gl X "range") (hm2 : X.mg "range" = none) (ha : DE X G W a wa) (na : starEach [a] X.env = (false, eval a X.env) :: starEach [] X.env := by rfl)
    (nb : starEach [.Call (.Name "range" apos) [a] [] cpos] X.env = (false, eval (.Call (.Name "range" apos) [a] [] cpos) X.env) :: starEach [] X.env := by rfl) : DE X G W (.Call (.Name "tuple" p) [.Call (.Name "range" apos) [a] [] cpos] [] pos) (wTupR1 wa) :=
  PE.imp (pe_tupRg hc hg hm (prg_1 hg2 hm2 ha na) nb) fun σ H Q ⟨F, δ, P, PX, S, q, k, xk⟩ => by
    refine ⟨F, δ, _, PX, S, q, fun v F1 H1 r x1 q1 ⟨n, e, h1, h2, p1⟩ => ?_, xk⟩
    subst e
    cases q1
    refine ⟨n, rfl, RgOk.of_le (by decide) h2 (by decide) h1, fun t ht => ?_⟩
    have l : RepL X.K F1 (rgV 0 n) (intsD 0 n.toNat) := by
      unfold rgV
      rw [Int.sub_zero]
      exact RepL.rg
    obtain ⟨x2, r2⟩ := new_tup (K := X.K) x1.stay ht l
    exact k _ _ _ _ (x1.trans x2) (r2.back x1) p1

/-! ### methods of texts and lists -/
/-- a method: the receiver is read first -/
def MtD (K : PySem.W.Frag) (T : String) (r : V → List V → Hp → VK → Prop) (ok : R → Prop) (k : R → KC) : Prop :=
  (∀ (w : Option Dw) (H0 F H : Hp) (x : V) (r0 : R), Sub F H → RepR K w H0 F H x r0 → ok r0 → tyV K T x H) ∧
  ∀ (w : Option Dw) (H0 F H : Hp) (x : V) (r0 : R) (vs : List V) (rs : List R) (P : R → Prop) (Q : VK), Ext w F H F H → RepR K w H0 F H x r0 → RepRs K w H0 F H vs rs → k r0 rs P →
    (∀ v F' H' r, Ext w F H F' H' → RepR K w H F' H' v r → P r → Q v H') → r x vs H Q
def wMt (ok : R → Prop) (k : R → KC) (wo : WE') (wa : WA) : WE' := fun δ P PX => wo δ (fun r0 => ok r0 ∧ wa δ (fun rs => k r0 rs P) PX) PX
theorem de_mt {T : String} {r : V → List V → Hp → VK → Prop} {ok : R → Prop} {k : R → KC} (h : PE X e (tBM X.K T r (dT X.K G W wo) (dTA X.K G W waa))) (hk : MtD X.K T r ok k) : DE X G W e (wMt ok k wo waa) := PE.imp h fun σ H Q ⟨F, δ, P, PX, S, q, kk, xk⟩ => by
  refine ⟨F, δ, _, PX, S, q, fun x F1 H1 r0 x1 q1 ⟨ho, p1⟩ => ⟨hk.1 G.w H F1 H1 x r0 x1.le q1 ho, ?_⟩, xk⟩
  refine dTA.next S x1 xk p1 fun vs F2 H2 rs x2 q2 p2 => ?_
  exact hk.2 G.w H F2 H2 x r0 vs rs P Q x2.stay (q1.to x2) (q2.back x1) p2 fun v F' H' r x3 q3 p3 => kk v F' H' r ((x1.trans x2).trans x3) (q3.back (x1.trans x2)) p3
def isS (r : R) : Prop := ∃ s, r = .im (.str s)
def isL (r : R) : Prop := ∃ xs, r.lst = some xs
theorem tyS {w : Option Dw} {H0 F H : Hp} {x : V} {r0 : R} (le : Sub F H) (q : RepR K w H0 F H x r0) (h : isS r0) : tyV K "str" x H := by
  obtain ⟨s, rfl⟩ := h
  cases q
  rfl
theorem tyL {w : Option Dw} {H0 F H : Hp} {x : V} {r0 : R} (le : Sub F H) (q : RepR K w H0 F H x r0) (h : isL r0) : tyV K "list" x H := by
  obtain ⟨xs, e⟩ := h
  obtain ⟨b, us, rfl, hb, lb⟩ := q.list le e
  exact .inl ⟨rfl, us, hb⟩
/-- s.index(t) -/
def kSIndex : R → KC := fun r0 rs P => ∃ a b i rest, r0 = .im (.str a) ∧ rs = [.im (.str b)] ∧ Builtin.Str.occurrences a b 0 a.length 1 = i :: rest ∧ P (.im (.int (i : Nat)))
theorem mtD_sindex : MtD K "str" (fun x xs H Q => ∃ a b i rest, x = .str a ∧ xs = [.str b] ∧ Builtin.Str.occurrences a b 0 a.length 1 = i :: rest ∧ Q (.int (i : Nat)) H) isS kSIndex := by
  refine ⟨fun w H0 F H x r0 le q h => tyS le q h, ?_⟩
  rintro w H0 F H x r0 vs rs P Q x0 q qs ⟨a, b, i, rest, rfl, rfl, ho, p⟩ k
  cases q
  cases qs with
  | cons r t => cases t; cases r; exact ⟨a, b, i, rest, rfl, rfl, ho, k _ F H (.im _) x0 (.int _) p⟩
/-- sep.join(xs) -/
def kJoin : R → KC := fun r0 rs P => ∃ (a : Str) (r : R) (ys : List Str), r0 = .im (.str a) ∧ rs = [r] ∧ r.lst = some (ys.map PyData.str) ∧ (ys.map (·.length)).sum + ys.length * a.length ≤ 16777216 ∧ P (.im (.str (Txt.join a ys)))
theorem RepL.isStrs : ∀ {bs : List Str} {vs : List V}, RepL K F vs (bs.map PyData.str) → vs = bs.map V.str
  | [], _, h => by cases h; rfl
  | n :: r, _, h => by
    rw [List.map_cons] at h
    cases h with
    | cons a t => cases a; rw [RepL.isStrs t]; rfl
theorem mtD_join : MtD K "str" (fun x xs H Q => ∃ a p, ∃ ys : List Str, x = .str a ∧ xs = [.ref p] ∧ (SqL K H p (ys.map V.str) ∨ SqT K H p (ys.map V.str)) ∧
    (ys.map (·.length)).sum + ys.length * a.length ≤ 16777216 ∧ Q (.str (Txt.join a ys)) H) isS kJoin := by
  refine ⟨fun w H0 F H x r0 le q h => tyS le q h, ?_⟩
  rintro w H0 F H x r0 vs rs P Q x0 q qs ⟨a, r, ys, rfl, rfl, e, hz, p⟩ k
  cases q
  cases qs with
  | cons r t =>
    cases t
    obtain ⟨b, us, rfl, hb, lb⟩ := r.list x0.le e
    rw [RepL.isStrs lb] at hb
    exact ⟨a, b, ys, rfl, rfl, .inl hb, hz, k _ F H (.im _) x0 (.str _) p⟩
/-- xs.index(y) -/
def kLIndex : R → KC := fun r0 rs P => ∃ ds r d j z, r0.lst = some ds ∧ rs = [r] ∧ r.datA = some d ∧ SeqAt.shaped (.list ds) = true ∧ SeqAt.shaped d = true ∧ ds[j]? = some z ∧ PyData.eqv z d = true ∧
  (∀ (m : Nat) (z' : D), m < j → ds[m]? = some z' → PyData.eqv z' d = false) ∧ P (.im (.int (j : Nat)))
theorem mtD_lindex : MtD K "list" (rIndexD K) isL kLIndex := by
  refine ⟨fun w H0 F H x r0 le q h => tyL le q h, ?_⟩
  rintro w H0 F H x r0 vs rs P Q x0 q qs ⟨ds, r, d, j, z, e0, rfl, e, s1, s2, hz, he, hno, p⟩ k
  have hl := q.dpl x0.le e0 (SeqAt.canLay_of_shaped s1)
  cases qs with
  | cons r t =>
    cases t
    obtain ⟨b, us, rfl, hb, lb⟩ := q.list x0.le e0
    exact ⟨b, _, d, ds, j, z, rfl, rfl, hl, r.dp x0.le e (SeqAt.canLay_of_shaped s2), s1, s2, hz, he, hno, k _ F H (.im _) x0 (.int _) p⟩

/-! ### one sign in a text -/
def kInS (neg : Bool) : KO := fun r1 r2 P => ∃ (c : Nat) (z : Str), r1 = .im (.str ⟨#[c]⟩) ∧ r2 = .im (.str z) ∧ P (.im (.bool (if neg then !decide (c ∈ z.cps.toList) else decide (c ∈ z.cps.toList))))
theorem opd_inS : OpD K (fun x y H Q => ∃ (c : Nat) (z : Str), x = .str ⟨#[c]⟩ ∧ y = .str z ∧ Q (.bl (decide (c ∈ z.cps.toList))) H) (kInS false) := by
  intro w H0 F H x y r1 r2 P Q x0 q1 q2 ⟨c, z, e1, e2, p⟩ k
  subst e1; subst e2
  cases q1; cases q2
  exact ⟨c, z, rfl, rfl, k _ F H (.im _) x0 (.bl _) p⟩
theorem de_inS (ha : DE X G W a wa) (hb : DE X G W b wb) (hm : behindInMarks .In b = false := by rfl) : DE X G W (.Compare a [.In] [b] pos) (wOp (kInS false) wa wb) := de_cmp op_in_sign opd_inS ha hb hm

/-! ### slices -/
def wSl (k : R → Option Int → Option Int → (R → Prop) → Prop) (we : WE') (lo hi : WE' ⊕ Unit) : WE' := fun δ P PX => we δ (fun r => match lo, hi with
  | .inr _, .inr _ => k r none none P
  | .inl wl, .inr _ => wl δ (fun rl => ∃ i : Int, rl = .im (.int i) ∧ k r (some i) none P) PX
  | .inr _, .inl wh => wh δ (fun rh => ∃ i : Int, rh = .im (.int i) ∧ k r none (some i) P) PX
  | .inl wl, .inl wh => wl δ (fun rl => ∃ i : Int, rl = .im (.int i) ∧ wh δ (fun rh => ∃ j : Int, rh = .im (.int j) ∧ k r (some i) (some j) P) PX) PX) PX
end
end DW
set_option Elab.async false
set_option linter.all false
set_option maxRecDepth 100000
set_option maxHeartbeats 4000000
namespace DW
open PySem PySem.Spec L2

def R.arg : R → Option SV
  | .im d => some (.im d)
  | .drw => some .drw
  | _ => none
def startD (N : List Str) (rs : List R) : DEnv := rs.map R.arg ++ List.replicate (N.length - rs.length) none
section
variable {K : PySem.W.Frag} {w : Option Dw} {F H : Hp}
theorem start_get {N : List Str} {vs : List V} {rs : List R} {H0 : Hp} (q : RepRs K w H0 F H vs rs) : ∀ {i : Nat} {s : SV}, (startD N rs)[i]? = some (some s) → ∃ v r, (L2.start N vs)[i]? = some (some v) ∧ RepR K w H0 F H v r ∧ r.arg = some s := by
  intro i s e
  unfold startD at e
  unfold L2.start
  have hl := q.length
  by_cases h : i < rs.length
  · rw [List.getElem?_append_left (by rw [List.length_map]; exact h)] at e
    rw [List.getElem?_append_left (by rw [List.length_map]; omega)]
    clear hl h
    induction q generalizing i with
    | nil => simp at e
    | @cons v r vs rs a t ih =>
      cases i with
      | zero =>
        simp only [List.map_cons, List.getElem?_cons_zero] at e ⊢
        exact ⟨v, r, rfl, a, Option.some.inj e⟩
      | succ j =>
        simp only [List.map_cons, List.getElem?_cons_succ] at e ⊢
        exact ih e
  · rw [List.getElem?_append_right (by rw [List.length_map]; omega)] at e
    rw [List.getElem?_replicate] at e
    split at e <;> cases e
theorem start_ok {N : List Str} {vs : List V} {rs : List R} (x : Ext w F H F H) (q : RepRs K w H F H vs rs) (hN : rs.length ≤ N.length) : RepS K ⟨w, F, H⟩ F H (L2.start N vs) (startD N rs) := by
  have own : ∀ {r : R} {s : SV}, r.arg = some s → s.owned = true → False := fun {r s} e o => by
    cases r with
    | im d => cases e; cases o
    | drw => cases e; cases o
    | _ => cases e
  refine ⟨x, ?_, fun i s e => ?_, fun i s p e o _ => ?_, fun i j s t p _ e _ o _ _ _ => ?_⟩
  · unfold L2.start startD
    rw [List.length_append, List.length_append, List.length_map, List.length_map, List.length_replicate, List.length_replicate, q.length]
  · obtain ⟨v, r, e1, rr, ea⟩ := start_get q e
    refine ⟨v, e1, ?_⟩
    cases r with
    | im d => cases ea; exact rr
    | drw => cases ea; exact rr
    | _ => cases ea
  · obtain ⟨v, r, e1, rr, ea⟩ := start_get q e
    exact (own ea o).elim
  · obtain ⟨v, r, e1, rr, ea⟩ := start_get q e
    exact (own ea o).elim
end
/-- what a def's body is to end in -/
def fnEnds (P : R → Prop) (PX : DX → Prop) : DEnds := ⟨fun _ => P (.im .none), fun r => r.given = true ∧ P r, fun _ => False, fun _ => False, PX⟩
section
variable {P : Program} {w : World} {K : PySem.W.Frag} {mg : Str → Option Value} {base : Heap}
theorem dfn_ok {x qual : Str} {st : Stmt} {f : Addr} {fd : FuncData} {N ps : List Str} {k n : Nat} {S : DSpec} {ws : WS} (Fn : Fun K x qual st f fd) (sc : FnScope N ps (defScope st)) (hn : ps.length = n) (hN : n ≤ N.length)
    (body : ∀ (cdv : Value) (A : Around) (outer : List Env) (s : Shared) (H : Hp) (E : XK) (G : Gd), Room k (A.deeper (PyProof.Rows.envOfC qual (defScope st) s.heap.objs.size f cdv)) →
      DSs (cxOf CX0 P w K mg base N qual (defScope st) f cdv A outer s H E).nox G wTrue (defBody st) ws)
    (sem : ∀ rs P, rs.length = n → rs.all plainR = true → S rs P (fun _ => False) → ws (fnEnds P fun _ => False) (startD N rs))
    (hS : ∀ rs P PX, S rs P PX → S rs P fun _ => False) : FnOk P w K mg base CX0 (k + 1) f fd ps (dSp K n S) := by
  refine Fn.ok sc (fun vs H Q E h => (dSp_len vs H Q E h).trans hn.symm) fun cdv A outer s H vs Q E hr h => ?_
  obtain ⟨dw, F, rs, PP, PX, x, q, g, hl, hs, kq, _⟩ := h
  refine ⟨_, body cdv A outer s H E ⟨dw, F, H⟩ hr, F, _, fnEnds PP fun _ => False, start_ok x q (by rw [hl]; exact hN), sem rs PP hl g (hS _ _ _ hs), ?_⟩
  refine ⟨fun σ' F' H' δ' _ S' p => ?_, fun _ _ _ _ _ _ z => z.elim, fun _ _ _ _ _ _ z => z.elim, fun v F' H' r x' r' ⟨gv, p⟩ => kq v F' H' r x' r' gv p, fun _ _ _ _ _ _ _ _ z => z.elim⟩
  exact kq .non F' H' (.im .none) S'.ext .non rfl p
/-- a def that may let out an exception -/
theorem dfn_okX {x qual : Str} {st : Stmt} {f : Addr} {fd : FuncData} {N ps : List Str} {k n : Nat} {S : DSpec} {ws : WS} (Fn : Fun K x qual st f fd) (sc : FnScope N ps (defScope st)) (hn : ps.length = n) (hN : n ≤ N.length)
    (body : ∀ (cdv : Value) (A : Around) (outer : List Env) (s : Shared) (H : Hp) (E : XK) (G : Gd), Room k (A.deeper (PyProof.Rows.envOfC qual (defScope st) s.heap.objs.size f cdv)) →
      DSs (cxOf (L2.CX P w) P w K mg base N qual (defScope st) f cdv A outer s H E) G (fun cls d _ H => E cls d H) (defBody st) ws)
    (sem : ∀ rs P PX, rs.length = n → rs.all plainR = true → S rs P PX → ws (fnEnds P PX) (startD N rs)) : FnOk P w K mg base (L2.CX P w) (k + 1) f fd ps (dSp K n S) := by
  refine Fn.okX sc (fun vs H Q E h => (dSp_len vs H Q E h).trans hn.symm) fun cdv A outer s H vs Q E hr h => ?_
  obtain ⟨dw, F, rs, PP, PX, x, q, g, hl, hs, kq, kx⟩ := h
  refine ⟨_, body cdv A outer s H E ⟨dw, F, H⟩ hr, F, _, fnEnds PP PX, start_ok x q (by rw [hl]; exact hN), sem rs PP PX hl g hs, ?_⟩
  refine ⟨fun σ' F' H' δ' _ S' p => ?_, fun _ _ _ _ _ _ z => z.elim, fun _ _ _ _ _ _ z => z.elim, fun v F' H' r x' r' ⟨gv, p⟩ => kq v F' H' r x' r' gv p, fun x F' H' cls d σ' e r p => kx x F' H' cls d e r p⟩
  exact kq .non F' H' (.im .none) S'.ext .non rfl p
end
end DW
set_option Elab.async false
set_option linter.all false
set_option maxRecDepth 100000
set_option maxHeartbeats 4000000
namespace DW
open PySem PySem.Spec L2 PyProof.Rows

section
variable {X : Cx}
/-- a display's or a comprehension's own store, whatever the keys -/
theorem dset {pins : List (Addr × Obj)} {σ : L2.St} {H H' : Hp} {s : Shared} {E : Value → Shared → Prop} {D : Addr} {y v : V} {u r : Value} {Q : Unit → Shared → Prop} (hu : X.A.units + 1 < cLine) (I : Inv X pins σ H s) (g : DPut H D y v H')
    (ry : RelV y u) (rv : RelV v r) (h : ∀ t, Inv X pins σ H' t → Q () t) : wpAny (model X.prog X.w) X.A (dictSet D u r) Q E s := by
  rcases g with ⟨kvs, k, e, ey, l, eH⟩ | ⟨kvs, k, b, e, ey, eb, l, eH⟩
  · subst ey; subst eH
    exact d_dictSet I e l ry rv h
  · subst ey; subst eH
    obtain rfl : u = Value.ref b := ry
    obtain ⟨z, ns, xs, q, dd⟩ := dt_of I.hok e
    have z1 : xs.length ≤ sizeLine := Paired.length q ▸ z
    have z2 : (putK kvs k v).length ≤ sizeLine := Nat.le_trans (length_putK kvs k v) (by omega)
    refine wpAny_dictSet_heap (hsz := z1) (Nat.lt_of_succ_lt hu) (key_of I.hok eb) dd fun hp dd2 sb => h _ ?_
    obtain ⟨ob, es, ep, hq, a2, a3, a4, _, a5⟩ := dd2
    have cut : ∀ c ys, H c = some (.tup ys) → upd H D (.dT (putK kvs k v)) c = some (.tup ys) := fun c ys ec => by
      rw [upd_ne (ne_of ec e (fun z => nomatch z))]; exact ec
    exact d_write I (by rw [e]; exact True.intro) sb ⟨ob, hq⟩ ⟨z2, ns, _, (q.put k eb rv).keeps cut, ob, es, ep, hq, a2, a3, a4, a5⟩
/-- what is wanted of {k: v for ..}: o0 the empty dict of the kind -/
def tDG (o0 : HO) (wi : TI) (g : TG) (tt : TT) (tk tv : TE) (vs : List Nat) : TE := fun σ H Q => wi σ H fun J H1 => ∀ D, H1 D = none → ∃ U : Nat → Nat → Hp → Prop, (∃ m, U 0 m (upd H1 D o0)) ∧ ∀ i m H, U i m H →
  (J.stop i H ∧ Q (.ref D) H) ∨ (J.go i H ∧ ∃ Nx : Hp → Prop, (∀ H', Nx H' → ∃ n, n < m ∧ U (i + 1) n H') ∧ ∀ x H', J.yld i H x H' → g x (wipe σ vs) H' fun τ H2 => wipe τ vs = wipe σ vs ∧ tt τ H2 fun b H3 =>
    if b = true then tk τ H3 fun y H4 => tv τ H4 fun z H5 => ∃ H6, DPut H5 D y z H6 ∧ Nx H6 else Nx H3)
/-- o0 is an empty dict -/
def Emp (o0 : HO) : Prop := o0 = .dK [] ∨ o0 = .dT []
theorem Emp.ok {o0 : HO} (e : Emp o0) {P : Program} {w : World} {H : Hp} (h : Heap) (hb : sysModules < h.objs.size) : ObjOk P w H (h.push { cls := .type "dict", data := .dict #[] }) h.objs.size o0 := by
  rcases e with rfl | rfl
  · exact dk_empty h hb
  · exact dt_empty h hb
theorem dg_core {o0 : HO} {pins : List (Addr × Obj)} {s : Shared} {σ : L2.St} {H : Hp} {Q : VK} {kx vx tg iter : Expr} {ifs : List Expr} {scope : Scope} {own : List (Str × Nat)} {p1 p2 : Pos} {wi : TI} {g : TG} {tt : TT} {tk tv : TE} {use : Option (Value → Sem Unit)} {Qf : Value → Shared → Prop}
    (he0 : Emp o0) (hu : X.A.units + 1 < cLine) (calm : X.calm = true) (nd : X.N.Nodup) (I : Inv X pins σ H s) (hi : PI X tg iter wi) (ok : BlkOk X.N X.env.scope scope own)
    (hg : ∀ (s : Shared) (H : Hp) (C : Addr) (cl : List (Str × Addr)) (fp : List Addr), PG (X.blk s H scope (compEnvC scope cl C X.env) fp) tg g) (ht : ∀ (s : Shared) (H : Hp) (C : Addr) (cl : List (Str × Addr)) (fp : List Addr), PTs (X.blk s H scope (compEnvC scope cl C X.env) fp) ifs tt)
    (hk : ∀ (s : Shared) (H : Hp) (C : Addr) (cl : List (Str × Addr)) (fp : List Addr), PE (X.blk s H scope (compEnvC scope cl C X.env) fp) kx tk) (hv : ∀ (s : Shared) (H : Hp) (C : Addr) (cl : List (Str × Addr)) (fp : List Addr), PE (X.blk s H scope (compEnvC scope cl C X.env) fp) vx tv)
    (hs : ∀ x, foldedSetIterable iter X.env x = pure x) (h : tDG o0 wi g tt tk tv (own.map (·.2)) σ H Q)
    (fin0 : ∀ D C t m H', Inv X pins σ H' t → Q (.ref D) H' → t.heap.Ns C m → FpOk X pins H' C → compPost (model X.prog X.w) X.A X.xe use Qf (.ref D) C (.ok .next) t) :
    wpAny (model X.prog X.w) X.A (comprehension (.DictComp kx vx [⟨tg, iter, ifs, 0⟩] scope p1) scope X.env p2 newDict false (eval iter X.env) use) Qf X.xe s := by
  have caught : ∀ y ∈ scope.names, y.2 = .free → ∃ c, X.env.cells.lookup y.1 = some c := fun y hy e => (ok.free y hy e).elim (fun k => I.ok.has _ (.inl k)) fun k => I.ok.has _ (.inr k)
  refine wpAny_comprehension_free (use := use) rfl hs (closure_ok caught) ok.kind (fun y hy e => by rw [ok.uniq y hy, e]) (thn (hi.run pins s σ H _ I h) fun xv t1 hx => thn hx fun itv t2 z => ?_)
  obtain ⟨it, fp, tn, J, H2, e, I2, T, at0, f2, q⟩ := z
  subst e
  refine wpAny_newObj_type (newEnv_comp ?_)
  generalize eD : t2.heap.objs.size = D
  have gone : H2 D = none := I2.hok.fresh (Nat.le_of_eq eD)
  obtain ⟨U, ⟨m0, u0⟩, turn⟩ := q D gone
  generalize e3 : ({ t2 with heap := t2.heap.push { cls := .type "dict", data := .dict #[] } } : Shared) = t3
  have I3 : Inv X pins σ (upd H2 D o0) t3 := by
    subst e3; subst eD
    exact I2.laid (t' := t2.toks) (fun b o e => Heap.get?_push_of_some _ e) (Nat.le_refl _) (he0.ok t2.heap I2.big)
  have k3 : t3.heap = t2.heap.push { cls := .type "dict", data := .dict #[] } := by subst e3; rfl
  have below : ∀ b ∈ fp, b < t2.heap.objs.size := fun b hb => let ⟨o, e, _⟩ := T.obj _ _ at0 b hb; Heap.lt_size e
  have f3 : ∀ b ∈ fp, FpOk X pins (upd H2 D o0) b ∧ b < t3.heap.objs.size := fun b hb => by
    have lt := below b hb
    have ne : b ≠ D := by rw [← eD]; exact Nat.ne_of_lt lt
    exact ⟨⟨by rw [upd_ne ne]; exact (f2 b hb).1, (f2 b hb).2⟩, by rw [k3, Heap.size_push]; exact Nat.lt_succ_of_lt lt⟩
  have at3 : tn 0 t3.heap := T.keep _ _ _ at0 fun b _ o e => by rw [k3]; exact Heap.get?_push_of_some _ e
  have I4 := block_start I3 ok nd f3
  generalize ecl : cellsFrom (t3.heap.objs.size + 1) scope.names (cloFrom X.env.cells scope.names []) = cl at I4
  have pg := hg t3 (upd H2 D o0) t3.heap.objs.size cl fp
  have pt := ht t3 (upd H2 D o0) t3.heap.objs.size cl fp
  have pk := hk t3 (upd H2 D o0) t3.heap.objs.size cl fp
  have pe := hv t3 (upd H2 D o0) t3.heap.objs.size cl fp
  subst ecl
  show codeAny _ _ (.compStart (.DictComp kx vx [⟨tg, iter, ifs, 0⟩] scope p1) 0 (.ref it) (.ref D) (compEnvC scope (cellsFrom (t3.heap.objs.size + 1) scope.names (cloFrom X.env.cells scope.names [])) t3.heap.objs.size X.env)) (compPost (model X.prog X.w) X.A X.xe use Qf (.ref D) t3.heap.objs.size) { t3 with heap := pushCells (t3.heap.push { cls := .type "dict", data := .dict #[] }) scope.names }
  have nofp : ∀ b ∈ fp, (upd H2 D o0) b = none := fun b hb => (f3 b hb).1.1
  generalize ee : compEnvC scope (cellsFrom (t3.heap.objs.size + 1) scope.names (cloFrom X.env.cells scope.names [])) t3.heap.objs.size X.env = ce at I4 pg pt pk pe ⊢
  have eL : ce.locals = t3.heap.objs.size := by subst ee; rfl
  generalize eH : upd H2 D o0 = H3 at I3 I4 pg pt pk pe u0 nofp f3
  generalize e4 : ({ t3 with heap := pushCells (t3.heap.push { cls := .type "dict", data := .dict #[] }) scope.names } : Shared) = t4 at I4 ⊢
  have at4 : tn 0 t4.heap := T.keep _ _ _ at3 fun b _ o e => by subst e4; exact pushCells_keeps _ _ _ _ (Heap.get?_push_of_some _ e)
  have still : ∀ {τ : L2.St} {H' : Hp} {t : Shared}, Inv (X.blk t3 H3 scope ce fp) [] τ H' t → (∀ b ∈ fp, H' b = none) → ∀ b ∈ fp, FpOk (X.blk t3 H3 scope ce fp) [] H' b := fun {τ H' t} J' n b hb => ⟨n b hb, (J'.ok.exf b hb).1, J'.ok.exfs b hb, .inl hb, fun x c e => (J'.ok.exf b hb).2 x c e, fun p hp => by cases hp⟩
  have loop : codeAny (model X.prog X.w) X.A (.compLoop (.DictComp kx vx [⟨tg, iter, ifs, 0⟩] scope p1) 0 (.ref it) (.ref D) ce) (compPost (model X.prog X.w) X.A X.xe use Qf (.ref D) t3.heap.objs.size) t4 := by
    refine compLoop_anyD (fun n t => ∃ i H', Inv (X.blk t3 H3 scope ce fp) [] (wipe σ (own.map (·.2))) H' t ∧ tn i t.heap ∧ (∀ b ∈ fp, H' b = none) ∧ U i n H') ?_ m0 ⟨0, H3, I4, at4, nofp, u0⟩
    rintro n t5 ⟨i, H5, I5, at5, n5, u5⟩
    rcases turn i n H5 u5 with ⟨stop, qq⟩ | ⟨go, Nx, more, step⟩
    · refine thnF (T.done (X.blk t3 H3 scope ce fp) rfl rfl rfl calm i [] t5 _ H5 (fun _ _ => False) I5 (still I5 n5) at5 stop) fun r t6 ⟨hr, I6⟩ => ?_
      subst hr
      have I7 : Inv X pins σ H5 t6 := I3.call' (ch := fp) I6.os I6.base I6.hok I6.bare fun b hb => let ⟨_, c1, c2, c3, c4, c5⟩ := (f3 b hb).1; ⟨c3, c1, c4, c5⟩
      have nC : H5 t3.heap.objs.size = none := by rw [← eL]; exact I6.free
      obtain ⟨m, hn, _⟩ := I6.loc
      have hn2 : t6.heap.Ns t3.heap.objs.size m := by rw [← eL]; exact hn
      exact fin0 D t3.heap.objs.size t6 m H5 I7 qq hn2 (I3.fpOk (Nat.le_refl _) nC)
    · refine thnF (T.item (X.blk t3 H3 scope ce fp) rfl rfl rfl calm i [] t5 _ H5 (fun _ _ => False) I5 (still I5 n5) at5 go) fun r t6 ⟨u, hr, h6⟩ => ?_
      subst hr
      refine thnF h6 fun _ t7 ⟨x, H7, I7, r7, y7, at7, n7⟩ => thnF (pg.run _ t7 _ H7 x u _ (I7.pinned (still I7 n7) (T.obj _ _ at7)) r7 (step x H7 y7)) fun _ t8 ⟨τ, H8, I8, hw, q8⟩ => thnF (pt.run _ t8 τ H8 _ I8 q8) fun b t9 ⟨H9, I9, q9⟩ => ?_
      have back : ∀ {t : Shared} {H' : Hp}, Inv (X.blk t3 H3 scope ce fp) ([] ++ pinsAt fp t7.heap) τ H' t → Nx H' → ∃ m, m < n ∧ ∃ i H', Inv (X.blk t3 H3 scope ce fp) [] (wipe σ (own.map (·.2))) H' t ∧ tn i t.heap ∧ (∀ b ∈ fp, H' b = none) ∧ U i m H' := fun {t H'} J' nx => by
        obtain ⟨m', hm, u'⟩ := more H' nx
        have hold : ∀ b ∈ fp, ∀ o, t7.heap.get? b = some o → t.heap.get? b = some o ∧ H' b = none := fun b hb o e => let z := J'.pin (b, o) (List.mem_append_right _ (List.mem_append_right _ (mem_pinsAt hb e))); ⟨z.1, z.2.1⟩
        refine ⟨m', hm, i + 1, H', (J'.unpinned (pins := [])).weak (by rw [← hw, wipe_length]) (fun j v e => (wipe_some (by rw [← hw] at e; exact e)).1), T.keep _ _ _ at7 fun b hb o e => (hold b hb o e).1, fun b hb => ?_, u'⟩
        obtain ⟨o, e, _⟩ := T.obj _ _ at7 b hb
        exact (hold b hb o e).2
      cases b with
      | false => rw [if_neg Bool.false_ne_true] at q9 ⊢; exact back I9 q9
      | true =>
        rw [if_pos rfl] at q9 ⊢
        exact thnF (pk.run _ t9 τ H9 _ I9 q9) fun z ta ⟨yk, Ha, Ia, ra, qa⟩ => thnF (pe.run _ ta τ Ha _ Ia qa) fun z2 tb ⟨yv, Hb, Ib, rb, H6, put, nx⟩ => dset (X := X.blk t3 H3 scope ce fp) hu Ib put ra rb fun tc Ic => back Ic nx
  exact codeAny_compStart_dict loop (T.self X.A 0 _ _ _ at4 loop)
theorem pe_dG {o0 : HO} {kx vx tg iter : Expr} {ifs : List Expr} {scope : Scope} {own : List (Str × Nat)} {pos : Pos} {wi : TI} {g : TG} {tt : TT} {tk tv : TE} (he0 : Emp o0) (hu : X.A.units + 1 < cLine) (calm : X.calm = true) (nd : X.N.Nodup) (hi : PI X tg iter wi) (ok : BlkOk X.N X.env.scope scope own)
    (hg : ∀ (s : Shared) (H : Hp) (C : Addr) (cl : List (Str × Addr)) (fp : List Addr), PG (X.blk s H scope (compEnvC scope cl C X.env) fp) tg g) (ht : ∀ (s : Shared) (H : Hp) (C : Addr) (cl : List (Str × Addr)) (fp : List Addr), PTs (X.blk s H scope (compEnvC scope cl C X.env) fp) ifs tt)
    (hk : ∀ (s : Shared) (H : Hp) (C : Addr) (cl : List (Str × Addr)) (fp : List Addr), PE (X.blk s H scope (compEnvC scope cl C X.env) fp) kx tk) (hv : ∀ (s : Shared) (H : Hp) (C : Addr) (cl : List (Str × Addr)) (fp : List Addr), PE (X.blk s H scope (compEnvC scope cl C X.env) fp) vx tv) (hs : ∀ x, foldedSetIterable iter X.env x = pure x := by intro _; rfl) :
    PE X (.DictComp kx vx [⟨tg, iter, ifs, 0⟩] scope pos) (tDG o0 wi g tt tk tv (own.map (·.2))) := ⟨fun pins s σ H Q I h => by
  rw [arm_eval_DictComp]
  exact dg_core he0 hu calm nd I hi ok hg ht hk hv hs h fun D C t m H' J' q hn f => ⟨m, hn, fun h'' sb => let ⟨f0, f1, f2, f3, f4, f5⟩ := f; ⟨.ref D, H', J'.turned (t' := t.toks) (fun b o hb e => (sb.2 b hb).trans e) f0 f1 f3 f4 f5, rfl, q⟩⟩⟩
/-- {k: v}, k a tuple -/
theorem pe_dT1 {k v : Expr} {tk tv : TE} {pos : Pos} (hu : X.A.units + 1 < cLine) (hk : PE X k tk) (hv : PE X v tv) : PE X (.Dict [some k] [v] pos)
    (fun σ H Q => ∀ p, H p = none → tk σ (upd H p (.dT [])) fun x H1 => tv σ H1 fun y H2 => H2 p = some (.dT []) ∧ ∃ ks b, x = .ref b ∧ H2 b = some (.tup (ks.map kV)) ∧ Q (.ref p) (upd H2 p (.dT [(ks, y)]))) := by
  refine ⟨fun pins s σ H Q I q => ?_⟩
  have hn := I.hok.fresh (Nat.le_refl s.heap.objs.size)
  have I1 := I.laid (a := s.heap.objs.size) (o := .dT []) (h' := s.heap.push { cls := .type "dict", data := .dict #[] }) (t' := s.toks) (fun _ _ q => Heap.get?_push_of_some _ q) (Nat.le_refl _) (dt_empty s.heap I.big)
  have shape := zip_pairTrees [some k] [v] X.env pos rfl rfl
  rw [arm_eval_Dict, shape, dictDisplay_pairs (pairTrees [some k] [v] X.env pos) (by intro z; cases z) (show (1 : Nat) < 17 by decide)]
  refine wpAny_bind (wpAny_standAt (wpAny_bind (wpAny_subDictH (knd := tupleKind (mixKind X.prog X.w)) (Q := fun d t => wpAny (model X.prog X.w) X.A (pure (Value.ref d)) _ X.xe t) (Nat.lt_of_succ_lt hu) (show (1 : Nat) ≤ 15 by decide) (pairTrees_cons_walk (thn (hk.run pins _ σ _ _ I1 (q _ hn)) fun u t1 ⟨x, H1, J1, rx, q1⟩ => thn (hv.run pins t1 σ H1 _ J1 q1) fun u2 t2 ⟨y, H2, J2, ry, e, ks, b, ex, eb, q2⟩ => pairTrees_nil_walk ?_)))))
  subst ex
  obtain rfl : u = Value.ref b := rx
  obtain ⟨z, ns, xs, rel, dd⟩ := dt_of J2.hok e
  cases rel
  refine ⟨[(ks, b, u2)], ⟨rfl, rfl, key_of J2.hok eb, trivial⟩, dd, fun h' tk dd2 sb => wpAny_pure ⟨.ref s.heap.objs.size, _, ?_, rfl, q2⟩⟩
  obtain ⟨ob, es, ep, hq, a2, a3, a4, _, a5⟩ := dd2
  have cut : ∀ c ys, H2 c = some (.tup ys) → upd H2 s.heap.objs.size (.dT [(ks, y)]) c = some (.tup ys) := fun c ys ec => by
    rw [upd_ne (ne_of ec e (fun z => nomatch z))]; exact ec
  exact d_write J2 (by rw [e]; exact True.intro) sb ⟨ob, hq⟩ ⟨(show (1 : Nat) ≤ sizeLine by decide), ns, [(ks, b, u2)], .cons ⟨rfl, cut _ _ eb, ry⟩ .nil, ob, es, ep, hq, a2, a3, a4, a5⟩
end
end DW
set_option Elab.async false
set_option linter.all false
set_option maxRecDepth 100000
set_option maxHeartbeats 4000000
namespace DW
open PySem PySem.Spec L2

section
variable {K : PySem.W.Frag} {w : Option Dw} {G : Gd} {F F1 F2 H H1 H2 : Hp} {σ : L2.St} {δ : DEnv}
variable {X : Cx} {W : WX} {st : Bool} {tg iter e a b c elt o kx vx : Expr} {es rest : List Expr} {we wa wb wc wk wv wo : WE'} {wt wu : WT} {waa : WA} {pos p apos cpos : Pos} {s : Stmt} {ws wss : WS}
/-! ### dicts made -/
theorem new_dict (x0 : Ext w F H F H) {p : Addr} {u : HO} (hp : H p = none) : Ext w F H F (upd H p u) ∧ F p = none ∧ ∀ d, w = some d → d.a ≠ p := by
  refine ⟨x0.own hp, x0.le.none hp, fun d e z => ?_⟩
  obtain ⟨i, r, c, h, _⟩ := (x0.dr d e).at_
  rw [z, hp] at h; cases h
def wNewK : WE' := fun _ P _ => P (.oK [])
def wNewT : WE' := fun _ P _ => P (.oT [])
theorem de_newK : DE X G W (.Dict [] [] pos) wNewK := PE.imp pe_dnewK fun σ H Q ⟨F, δ, P, PX, S, q, k, xk⟩ p hp => by
  obtain ⟨x1, n, nd⟩ := new_dict (u := .dK []) S.ext.stay hp
  exact k _ F _ (.oK []) x1 ⟨p, [], rfl, hp, upd_same, n, nd, .nil⟩ q
theorem de_newT : DE X G W (.Dict [] [] pos) wNewT := PE.imp pe_dnewT fun σ H Q ⟨F, δ, P, PX, S, q, k, xk⟩ p hp => by
  obtain ⟨x1, n, nd⟩ := new_dict (u := .dT []) S.ext.stay hp
  exact k _ F _ (.oT []) x1 ⟨p, [], rfl, hp, upd_same, n, nd, .nil⟩ q
def wDispT (wk wv : WE') : WE' := fun δ P PX => wk δ (fun r => ∃ ds ks, r = .im (.tuple ds) ∧ keysOf ds = some ks ∧ wv δ (fun r2 => ∃ d, r2.dat = some d ∧ P (.oT [(ks, d)])) PX) PX
theorem de_dispT (hu : X.A.units + 1 < cLine) (hk : DE X G W kx wk) (hv : DE X G W vx wv) : DE X G W (.Dict [some kx] [vx] pos) (wDispT wk wv) := PE.imp (pe_dT1 hu hk hv) fun σ H Q ⟨F, δ, P, PX, S, q, k, xk⟩ p hp => by
  obtain ⟨x0, n, nd⟩ := new_dict (u := .dT []) S.ext.stay hp
  refine dT.next S x0 xk q fun x F1 H1 r x1 q1 ⟨ds, ks, e, ek, p1⟩ => ?_
  subst e
  refine dT.next S (x0.trans x1) xk p1 fun y F2 H2 r2 x2 q2 ⟨d, ed, p2⟩ => ?_
  obtain ⟨F3, x3, _, rd⟩ := q2.freeze x2 ed
  have x13 := x1.trans x3
  obtain ⟨h', n'⟩ := x13.keepN (p := p) upd_same n nd
  have q1' := q1.to x3
  obtain ⟨b, us, rfl, hb, lb⟩ := RepR.tuple (K := X.K) (w := G.w) (H := upd H p (.dT [])) x3.le q1' (xs := ds) rfl
  obtain rfl := RepL.keys lb ek
  refine ⟨h', ks, b, rfl, x3.le _ _ hb, ?_⟩
  have xw : Ext G.w F H F3 (upd H2 p (.dT [(ks, y)])) := (x0.trans x13).write hp h' n' nd
  exact k _ F3 _ (.oT [(ks, d)]) xw ⟨p, _, rfl, hp, upd_same, n', nd, .cons rd .nil⟩ p2
def dcGo (wg : WG) (wt : WT) (wk wv : WE') (P : SV → Prop) (δ0 : DEnv) : List D → SV → Prop
  | [], s => P s
  | d :: ds, s => wg d δ0 fun δ1 => wt δ1 (fun b => if b = true then wk δ1 (fun r2 => ∃ kd, r2 = .im kd ∧ wv δ1 (fun r => ∃ v, r.dat = some v ∧ putE s kd v fun s1 => dcGo wg wt wk wv P δ0 ds s1) fun _ => True) (fun _ => True) else dcGo wg wt wk wv P δ0 ds s) fun _ => True
def SV.rO : SV → R
  | .im d => .im d
  | .ol xs => .ol xs
  | .oK xs => .oK xs
  | .oT xs => .oT xs
  | .drw => .drw
def wDc (s0 : SV) (wi : WI) (wg : WG) (wt : WT) (wk wv : WE') (vs : List Nat) : WE' := fun δ P PX => wi δ (fun items => dcGo wg wt wk wv (fun s => P s.rO) (wipeD δ vs) items s0) PX
/-- the empty dict of the kind -/
def Em (o0 : HO) (s0 : SV) : Prop := (o0 = .dK [] ∧ s0 = .oK []) ∨ (o0 = .dT [] ∧ s0 = .oT [])
theorem Em.emp {o0 : HO} {s0 : SV} (e : Em o0 s0) : Emp o0 := e.elim (fun z => .inl z.1) fun z => .inr z.1
def DictAt (K : PySem.W.Frag) (F : Hp) (u : HO) : SV → Prop
  | .oK kvs => ∃ vs, u = .dK vs ∧ RepKV K F vs kvs
  | .oT kvs => ∃ vs, u = .dT vs ∧ RepKV K F vs kvs
  | _ => False
theorem DictAt.nt {u : HO} {s : SV} (d : DictAt K F u s) : ∀ vs, u ≠ .tup vs := fun vs z => by
  subst z
  cases s with
  | oK kvs => obtain ⟨_, e, _⟩ := d; cases e
  | oT kvs => obtain ⟨_, e, _⟩ := d; cases e
  | _ => exact d
theorem DictAt.mono {u : HO} {s : SV} (s1 : Sub F F1) (d : DictAt K F u s) : DictAt K F1 u s := by
  cases s with
  | oK kvs => obtain ⟨vs, e, l⟩ := d; exact ⟨vs, e, l.mono s1⟩
  | oT kvs => obtain ⟨vs, e, l⟩ := d; exact ⟨vs, e, l.mono s1⟩
  | _ => exact d
theorem dc_of {o0 : HO} {s0 : SV} {wi : WI} {wg : WG} {ts vs : List Nat} {tt : TT} {tk tv : TE} (em : Em o0 s0) (hts : ∀ t ∈ ts, t ∈ vs) (ht : ∀ σ H Q, dTT K G wTrue wt σ H Q → tt σ H Q) (hk : ∀ σ H Q, dT K G wTrue wk σ H Q → tk σ H Q) (hv : ∀ σ H Q, dT K G wTrue wv σ H Q → tv σ H Q)
    {σ : L2.St} {H : Hp} {Q : VK} (h : dT K G W (wDc s0 wi wg wt wk wv vs) σ H Q) : tDG o0 (dTI K G W st wi) (dGT K G ts wg) tt tk tv vs σ H Q := by
  obtain ⟨F, δ, P, PX, S, q, k, xk⟩ := h
  refine ⟨F, δ, _, PX, S, q, fun J C F1 H1 items x1 c1 dw stc p1 => fun D hD => ?_, xk⟩
  obtain ⟨x1', n1, nd⟩ := new_dict (u := o0) x1.stay hD
  have d0 : DictAt K F1 o0 s0 := by
    rcases em with ⟨rfl, rfl⟩ | ⟨rfl, rfl⟩
    · exact ⟨[], rfl, .nil⟩
    · exact ⟨[], rfl, .nil⟩
  refine ⟨fun i m H => m = items.length - i ∧ i ≤ items.length ∧ ∃ F u sv, Ext G.w F1 H1 F H ∧ H D = some u ∧ F D = none ∧ DictAt K F u sv ∧ dcGo wg wt wk wv (fun s => P s.rO) (wipeD δ vs) (items.drop i) sv, ⟨_, rfl, Nat.zero_le _, F1, o0, s0, x1', upd_same, n1, d0, p1⟩, ?_⟩
  rintro i m H ⟨rfl, hi, F, u, sv, x2, hDl, hDf, da, go⟩
  obtain ⟨w1, w2, w3⟩ := dw F H (stc.ext c1 x2) x2.stay
  by_cases hlt : i < items.length
  · refine .inr ⟨w1 i hlt, fun H' => i + 1 ≤ items.length ∧ ∃ F u sv, Ext G.w F1 H1 F H' ∧ H' D = some u ∧ F D = none ∧ DictAt K F u sv ∧ dcGo wg wt wk wv (fun s => P s.rO) (wipeD δ vs) (items.drop (i + 1)) sv, fun H' n => ⟨items.length - (i + 1), by omega, rfl, n⟩, fun x H' y => ?_⟩
    have hd : items[i]? = some items[i] := List.getElem?_eq_getElem hlt
    have hdrop : items.drop i = items[i] :: items.drop (i + 1) := List.drop_eq_getElem_cons hlt
    rw [hdrop] at go
    obtain ⟨F', x3, rd⟩ := w3 i x H' _ hd y
    have S' : RepS K G F' H' (L2.wipe σ vs) (wipeD δ vs) := (S.to (x1.trans (x2.trans x3))).wipe vs
    refine ⟨F', wipeD δ vs, _, _, S', rd, go, fun σ2 δ2 o2 S2 p2 => ⟨wipe_only o2 hts, ?_⟩⟩
    refine ht _ _ _ ⟨F', δ2, _, _, S2, p2, fun b F3 H3 x4 p3 => ?_, xok_true⟩
    cases b with
    | false =>
      rw [if_neg Bool.false_ne_true] at p3 ⊢
      have x5 := x3.trans x4
      obtain ⟨h', n'⟩ := x5.keepN hDl hDf nd da.nt
      exact ⟨hlt, F3, u, sv, x2.trans x5, h', n', da.mono x5.fs, p3⟩
    | true =>
      rw [if_pos rfl] at p3 ⊢
      refine hk _ _ _ ⟨F3, δ2, _, _, S2.to x4, p3, fun yv F4 H4 r x5 q5 ⟨kd, ek, p4⟩ => ?_, xok_true⟩
      subst ek
      refine hv _ _ _ ⟨F4, δ2, _, _, (S2.to x4).to x5, p4, fun zv F5 H5 r x6 q6 ⟨v, er, pe⟩ => ?_, xok_true⟩
      obtain ⟨F6, x7, _, rd'⟩ := q6.freeze x6 er
      have x8 := ((x3.trans x4).trans x5).trans x7
      obtain ⟨h', n'⟩ := x8.keepN hDl hDf nd da.nt
      have da' := da.mono x8.fs
      have q5' := RepD.mono x7.fs q5
      have fin : ∀ {u' : HO} {sv' : SV}, DictAt K F6 u' sv' → dcGo wg wt wk wv (fun s => P s.rO) (wipeD δ vs) (items.drop (i + 1)) sv' → i + 1 ≤ items.length ∧ ∃ F u sv, Ext G.w F1 H1 F (upd H5 D u') ∧ (upd H5 D u') D = some u ∧ F D = none ∧ DictAt K F u sv ∧ dcGo wg wt wk wv (fun s => P s.rO) (wipeD δ vs) (items.drop (i + 1)) sv := fun {u' sv'} da2 p5 =>
        ⟨hlt, F6, u', sv', (x2.trans x8).write hD h' n' nd, upd_same, n', da2, p5⟩
      cases sv with
      | oK kvs =>
        obtain ⟨kk, ek, hl, p5⟩ := pe
        obtain ⟨us, rfl, l⟩ := da'
        obtain rfl := RepD.key q5' ek
        exact ⟨_, DPut.k h' (by rw [RepKV.length l]; exact hl), fin (sv' := .oK (putD kvs kk v)) ⟨_, rfl, l.put rd'⟩ p5⟩
      | oT kvs =>
        obtain ⟨ds, ks, rfl, ek, hl, p5⟩ := pe
        obtain ⟨us, rfl, l⟩ := da'
        obtain ⟨b, vs', rfl, hb, lb⟩ := RepR.tuple (K := K) (w := G.w) (H := H5) x7.le (r := .im (.tuple ds)) q5' (xs := ds) rfl
        obtain rfl := RepL.keys lb ek
        exact ⟨_, DPut.t h' (x7.le _ _ hb) (by rw [RepKV.length l]; exact hl), fin (sv' := .oT (putD kvs ks v)) ⟨_, rfl, l.put rd'⟩ p5⟩
      | _ => exact pe.elim
  · have hn : i = items.length := by omega
    subst hn
    rw [List.drop_length] at go
    refine .inl ⟨w2, k _ F H sv.rO (x1.trans x2) ?_ go⟩
    cases sv with
    | oK kvs => obtain ⟨us, rfl, l⟩ := da; exact ⟨D, us, rfl, x1.none hD, hDl, hDf, nd, l⟩
    | oT kvs => obtain ⟨us, rfl, l⟩ := da; exact ⟨D, us, rfl, x1.none hD, hDl, hDf, nd, l⟩
    | _ => exact da.elim
theorem de_dc {o0 : HO} {s0 : SV} {scope : Scope} {own : List (Str × Nat)} {wi : WI} {wg : WG} {ts : List Nat} (em : Em o0 s0) (hu : X.A.units + 1 < cLine) (hc : X.calm = true) (hN : X.N.Nodup) (hi : DI X G W st tg iter wi) (ok : BlkOk X.N X.env.scope scope own)
    (hg : ∀ (s : Shared) (H : Hp) (C : Addr) (cl : List (Str × Addr)) (fp : List Addr), DG (X.blk s H scope (compEnvC scope cl C X.env) fp) G ts tg wg)
    (hk : ∀ (s : Shared) (H : Hp) (C : Addr) (cl : List (Str × Addr)) (fp : List Addr), DE (X.blk s H scope (compEnvC scope cl C X.env) fp) G wTrue kx wk) (hv : ∀ (s : Shared) (H : Hp) (C : Addr) (cl : List (Str × Addr)) (fp : List Addr), DE (X.blk s H scope (compEnvC scope cl C X.env) fp) G wTrue vx wv)
    (hts : ∀ t ∈ ts, t ∈ own.map (·.2) := by decide) (hs : ∀ x, foldedSetIterable iter X.env x = pure x := by intro _; rfl) : DE X G W (.DictComp kx vx [⟨tg, iter, [], 0⟩] scope pos) (wDc s0 wi wg wtYes wk wv (own.map (·.2))) :=
  PE.imp (pe_dG em.emp hu hc hN hi ok hg (fun _ _ _ _ _ => pts_nil) hk hv hs) fun σ H Q h => dc_of em hts (fun σ H Q ⟨F, δ, P, PX, S, q, k, xk⟩ => k true F H S.ext.stay q) (fun _ _ _ h => h) (fun _ _ _ h => h) h
/-! ### len of a dict -/
def kLenK : KC := fun rs P => ∃ r kvs, rs = [r] ∧ r.dK = some kvs ∧ P (.im (.int (kvs.length : Nat)))
def kLenT : KC := fun rs P => ∃ r kvs, rs = [r] ∧ r.dT = some kvs ∧ P (.im (.int (kvs.length : Nat)))
theorem callD_lenT : CallD K rLenT kLenT := by
  rintro w H0 F H vs rs P Q x0 q ⟨r, kvs, rfl, e, p⟩ k
  cases q with
  | cons a t =>
    cases t
    obtain ⟨pp, us, rfl, h, n, l⟩ := a.isT e
    exact ⟨pp, us, rfl, h, by rw [RepKV.length l]; exact k _ F H (.im _) x0 (.int _) p⟩
theorem callD_lenK : CallD K (fun xs H Q => ∃ a kvs, xs = [V.ref a] ∧ H a = some (.dK kvs) ∧ Q (.int kvs.length) H) kLenK := by
  rintro w H0 F H vs rs P Q x0 q ⟨r, kvs, rfl, e, p⟩ k
  cases q with
  | cons a t =>
    cases t
    obtain ⟨pp, us, rfl, h, n, l⟩ := a.isK e
    exact ⟨pp, us, rfl, h, by rw [RepKV.length l]; exact k _ F H (.im _) x0 (.int _) p⟩
/-! ### a text times an int -/
def repS (s : Str) (n : Int) : Str := ⟨(List.replicate n.toNat s.cps).foldl (· ++ ·) #[]⟩
theorem rep_size (a : Array Nat) : ∀ (m : Nat) (acc : Array Nat), ((List.replicate m a).foldl (· ++ ·) acc).size = acc.size + m * a.size
  | 0, acc => by simp
  | m + 1, acc => by rw [List.replicate_succ, List.foldl_cons, rep_size a m, Array.size_append, Nat.succ_mul]; omega
theorem op_mulS : OpR X (binaryOp .Mult) (fun x y H Q => ∃ (s : Str) (n : Int), x = .str s ∧ y = .int n ∧ 0 ≤ n ∧ n ≤ 1000 ∧ s.length ≤ 1000 ∧ Q (.str (repS s n)) H) := by
  intro pins s σ H x y v u Q I rx ry h
  obtain ⟨z, n, rfl, rfl, h0, h1, h2, q⟩ := h
  obtain ⟨t, rfl⟩ := rx
  obtain ⟨t2, rfl⟩ := ry
  have big : z.length * n.toNat ≤ 1000000 := by
    have := Nat.mul_le_mul h2 (show n.toNat ≤ 1000 by omega)
    omega
  have c0 : (decide (n < -(2 ^ 63 : Int)) || decide (n ≥ 2 ^ 63)) = false := by
    rw [decide_eq_false (by omega), decide_eq_false (by omega)]; rfl
  refine P.mul_str c0 (fun a _ => ?_) (fun a _ => ?_) ?_
  · intro bad
    have e1 : ((z.length : Int)) * n ≤ 1000000 := by
      have h3 : ((z.length * n.toNat : Nat) : Int) ≤ 1000000 := Int.ofNat_le.mpr big
      rw [Int.natCast_mul, Int.toNat_of_nonneg h0] at h3
      exact h3
    have e2 := Int.le_ediv_of_mul_le (c := n) (a := (z.length : Int)) (b := 2 ^ 63 - 1) (by omega) (by omega)
    omega
  · unfold Builtin.Str.tooLong
    rw [sizeLine_eq]
    exact decide_eq_false (by omega)
  · have fin : ∀ u : Tok, ∀ s2 : Shared, Inv X pins σ H s2 → ∃ y H', Inv X pins σ H' s2 ∧ RelV y (Value.str (repS z n) u) ∧ Q y H' := fun u s2 I2 => ⟨.str (repS z n), H, I2, ⟨u, rfl⟩, q⟩
    by_cases c1 : n < 1
    · rw [if_pos c1]
      have e : repS z n = Str.empty := by
        have : n = 0 := by omega
        subst this
        rfl
      rw [e] at fin
      exact ⟨by decide, fin _ _ (I.tok _)⟩
    · rw [if_neg c1]
      by_cases c2 : (n == 1 || z.length == 0) = true
      · rw [if_pos c2]
        have e : repS z n = z := by
          simp only [Bool.or_eq_true, beq_iff_eq] at c2
          rcases c2 with rfl | c2
          · simp [repS]
          · have e0 : z.cps = #[] := Array.eq_empty_of_size_eq_zero c2
            have : ∀ m : Nat, (List.replicate m (#[] : Array Nat)).foldl (· ++ ·) #[] = #[] := fun m => by
              induction m with
              | zero => rfl
              | succ m ih => rw [List.replicate_succ, List.foldl_cons]; exact ih
            unfold repS
            rw [e0, this]
            cases z
            simp_all
        rw [e] at fin
        exact fin _ _ I
      · rw [if_neg c2]
        refine ⟨?_, fin _ _ (I.tok _)⟩
        show (repS z n).cps.size ≤ sizeLine
        unfold repS
        rw [rep_size, sizeLine_eq]
        have b2 : n.toNat * z.cps.size ≤ 1000 * 1000 := Nat.mul_le_mul (by omega) h2
        show 0 + _ ≤ _
        omega
def kMulS : KO := fun r1 r2 P => ∃ s n, r1 = .im (.str s) ∧ r2 = .im (.int n) ∧ 0 ≤ n ∧ n ≤ 1000 ∧ s.length ≤ 1000 ∧ P (.im (.str (repS s n)))
theorem opd_mulS : OpD K (fun x y H Q => ∃ (s : Str) (n : Int), x = .str s ∧ y = .int n ∧ 0 ≤ n ∧ n ≤ 1000 ∧ s.length ≤ 1000 ∧ Q (.str (repS s n)) H) kMulS := by
  rintro w H0 F H x y r1 r2 P Q x0 q1 q2 ⟨s, n, rfl, rfl, h0, h1, h2, p⟩ k
  cases q1; cases q2
  exact ⟨s, n, rfl, rfl, h0, h1, h2, k _ F H (.im _) x0 (.str _) p⟩
theorem de_mulS (ha : DE X G W a wa) (hb : DE X G W b wb) : DE X G W (.BinOp a .Mult b pos) (wOp kMulS wa wb) := de_op op_mulS opd_mulS ha hb
/-! ### a list taken apart -/
def wgUnl (n : Nat) (gs : WGs) : WG := fun d δ P => ∃ ds, d = .list ds ∧ ds.length = n ∧ gs ds δ P
theorem dg_unl {ts : List Nat} {gs : WGs} {n k : Nat} (hc : X.calm = true) (h : DGs X G ts es gs) (hn : (assignEach es X.env).length = n := by rfl) (hst : (assignEach es X.env).findIdx? (·.1) = none := by rfl) : DG X G ts (.Tuple es k pos) (wgUnl n gs) :=
  PG.imp (pg_lst hc h hn hst) fun v σ H Q ⟨F, δ, d, P, S, r, ⟨ds, e, hl, p⟩, k⟩ => by
    subst e
    cases r with
    | lst ha l => exact ⟨_, _, rfl, .inl (.inl (S.ext.le _ _ ha)), by rw [RepL.length l]; exact hl, F, δ, ds, P, S, l, p, k⟩
end
end DW
set_option Elab.async false
set_option linter.all false
set_option maxRecDepth 100000
set_option maxHeartbeats 4000000
namespace DW
open PySem PySem.Spec L2

section
variable {K : PySem.W.Frag} {w : Option Dw} {G : Gd} {F F1 F2 H H1 H2 : Hp} {σ : L2.St} {δ : DEnv}
variable {X : Cx} {W : WX} {st : Bool} {tg iter e a b c elt o kx vx : Expr} {es rest : List Expr} {we wa wb wc wk wv wo : WE'} {wt wu : WT} {waa : WA} {pos p np pos' apos cpos : Pos} {s b₀ : Stmt} {body suite : List Stmt} {ws wss : WS}
/-- X(), X an own exception class without own __init__ -/
theorem pmk_own0 {C : Addr} {bmB : List Value} {B newId initId : String} {x : Str} {p : Pos} (F : ExcBaseFacts B newId initId bmB) (q : PySem.W.excIn X.K C bmB newId = true) (gC : X.mg x = some (.ref C)) (kC : PySem.W.keepIn X.K (.ref C) = true)
    (r : Raises X (.ref C)) (hg : Gl X x) (hdb : (x == ("__debug__" : Str)) = false := by decide) : PMk X (.Call (.Name x p) [] [] pos) (fun _ H Q => Q (.ref C) none H) := fun pins s σ H Q I h => by
  refine wpAny_Call_Name_kw (ld_glob I hg gC (PySem.W.callWith_K0 I.kIn kC ?_) hdb)
  obtain ⟨bm, N, nm, qn, bs, hdct, sn, sub, ab, col, dd, k0, k1, k2, k3, k5, mN, hC, hN, hni, T⟩ := exc_obj I.kIn q
  refine wpAny_call_exc_subT F T hC hN hni (fun h' e hm => ?_) (Nat.zero_le _)
  exact mk_of I hm r h (I.hok.gone hm.new)
/-- raise X() -/
def sRaise0 (C : Addr) : WS := fun E _ => E.ex ⟨C, []⟩
theorem ds_raise0 {C : Addr} (hc : X.calm = true) (tk : Takes X W) (he : PMk X e (fun _ H Q => Q (.ref C) none H)) : DS X G W (.Raise (some e) none pos) (sRaise0 C) := PS.imp (ps_raise hc tk he) fun D σ H ⟨F, δ, E, S, q, k⟩ =>
  k.ex ⟨C, []⟩ F H (.ref C) none σ S.ext ⟨rfl, fun z => absurd rfl z⟩ q
/-- try: body, except c: suite; the suite returns -/
def sTry (m : Addr → Option Bool) (ws wss : WS) : WS := fun E δ => ws { E with ex := fun x => (m x.C = some true ∧ ∀ n, wss { E with nx := fun _ => False, bk := fun _ => False, ct := fun _ => False } (List.replicate n none)) ∨ (m x.C = some false ∧ E.ex x) } δ
theorem RepS.bare (x : Ext G.w G.F0 G.H0 F H) (σ : L2.St) : RepS K G F H σ (List.replicate σ.length none) := by
  have no : ∀ (i : Nat) (s : SV), (List.replicate σ.length (none : Option SV))[i]? = some (some s) → False := fun i s e => by
    rw [List.getElem?_replicate] at e
    split at e <;> cases e
  exact ⟨x, by rw [List.length_replicate], fun i s e => (no i s e).elim, fun i s p e => (no i s e).elim, fun i j s t p _ e => (no i s e).elim⟩
theorem ds_try {x : Str} {C : Addr} {m : Addr → Option Bool} (hm : ∀ D, m D = PySem.W.exmOne X.K (.ref D) (.ref C)) (hs : X.stack = X.env :: X.outer) (hf : X.env.frame = some X.env.locals) (hc : Names X x (.ref C)) (tk : Takes X W)
    (hb : ∀ (W' : WX) (pn : List (Addr × Obj)) (xe : Value → Shared → Prop), Takes (X.tr pn xe) W' → DSs (X.tr pn xe) G W' body ws) (hsu : ∀ (a : Addr) (pn : List (Addr × Obj)), DSs (X.suite a pn) G wTrue (b₀ :: suite) wss) :
    DS X G W (.Try body [.ExceptHandler (some (.Name x np)) none (b₀ :: suite) pos'] [] [] pos) (sTry m ws wss) :=
  PS.imp (ps_try_only (tb := fun W' => dTS X.K G W' ws) (ts := fun _ _ _ => dTS X.K G wTrue wss) (Wout := W) hs hf hc tk (fun W' pn xe tk' _ => hb W' pn xe tk') (fun a oe cls d pn _ _ => hsu a _)) fun D σ H ⟨F, δ, E, S, q, k⟩ => by
    refine ⟨F, δ, _, S, q, k.nx, k.bk, k.ct, k.rt, fun x' F' H' cls d σ' xt rx px => ?_⟩
    obtain ⟨rfl, rx2⟩ := rx
    rcases px with ⟨em, px⟩ | ⟨em, px⟩
    · refine ⟨true, (hm _).symm.trans em, fun _ a ha => ⟨F', _, _, RepS.bare xt σ', px σ'.length, fun _ _ _ _ _ _ z => z.elim, fun _ _ _ _ _ _ z => z.elim, fun _ _ _ _ _ _ z => z.elim, k.rt, fun _ _ _ _ _ _ _ _ _ => trivial⟩, (fun z => nomatch z)⟩
    · exact ⟨false, (hm _).symm.trans em, (fun z => nomatch z), fun _ => k.ex x' F' H' _ d σ' xt ⟨rfl, rx2⟩ px⟩
/-- nothing is let out: a def with a try -/
abbrev wFalse : WX := fun _ _ _ _ => False
theorem takes_nox : Takes X.nox wFalse := fun u s' ⟨_, _, _, _, _, _, _, _, _, _, _, _, _, _, _, _, z⟩ => z.elim
theorem takes_tr {xe : Value → Shared → Prop} {pn : List (Addr × Obj)} {W' : WX} (tk : Takes (X.tr pn xe) W') : Takes (X.tr pn xe) W' := tk
end
section
variable {P : Program} {w : World} {K : PySem.W.Frag} {mg : Str → Option Value} {base : Heap}
theorem dfn_okF {x qual : Str} {st : Stmt} {f : Addr} {fd : FuncData} {N ps : List Str} {k n : Nat} {S : DSpec} {ws : WS} (Fn : Fun K x qual st f fd) (sc : FnScope N ps (defScope st)) (hn : ps.length = n) (hN : n ≤ N.length)
    (body : ∀ (cdv : Value) (A : Around) (outer : List Env) (s : Shared) (H : Hp) (E : XK) (G : Gd), Room k (A.deeper (PyProof.Rows.envOfC qual (defScope st) s.heap.objs.size f cdv)) → DSs (cxOf CX0 P w K mg base N qual (defScope st) f cdv A outer s H E).nox G wFalse (defBody st) ws)
    (sem : ∀ rs P, rs.length = n → rs.all plainR = true → S rs P (fun _ => False) → ws (fnEnds P fun _ => False) (startD N rs)) (hS : ∀ rs P PX, S rs P PX → S rs P fun _ => False) : FnOk P w K mg base CX0 (k + 1) f fd ps (dSp K n S) := by
  refine Fn.ok sc (fun vs H Q E h => (dSp_len vs H Q E h).trans hn.symm) fun cdv A outer s H vs Q E hr h => ?_
  obtain ⟨dw, F, rs, PP, PX, x, q, g, hl, hs, kq, _⟩ := h
  refine ⟨_, body cdv A outer s H E ⟨dw, F, H⟩ hr, F, _, fnEnds PP fun _ => False, start_ok x q (by rw [hl]; exact hN), sem rs PP hl g (hS _ _ _ hs), ?_⟩
  refine ⟨fun σ' F' H' δ' _ S' p => kq .non F' H' (.im .none) S'.ext .non rfl p, fun _ _ _ _ _ _ z => z.elim, fun _ _ _ _ _ _ z => z.elim, fun v F' H' r x' r' ⟨gv, p⟩ => kq v F' H' r x' r' gv p, fun _ _ _ _ _ _ _ _ z => z.elim⟩
/-- a def of the law's, by its name -/
structure CalX (P : Program) (w : World) (K : PySem.W.Frag) (mg : Str → Option Value) (base : Heap) (k : Nat) (x : Str) (sp : Sp) : Prop where
  ex : ∃ (f : Addr) (fd : FuncData) (ps : List Str), FnOk P w K mg base (L2.CX P w) k f fd ps sp ∧ mg x = some (.ref f) ∧ PySem.W.keepIn K (.ref f) = true ∧ Binds K fd ps []
end
section
variable {X : Cx} {G : Gd} {W : WX} {e : Expr} {es : List Expr} {waa : WA} {pos p : Pos} {x : Str} {n k j : Nat} {S : DSpec}
/-- a call of a def that lets nothing out -/
theorem de_c (c : C8.Cal X.prog X.w X.K X.mg X.base k x (dSp X.K n S) []) (hS : ∀ rs P PX PX', S rs P PX → S rs P PX') (hr : Room j X.A) (hk : k ≤ j) (hg : Gl X x) (ha : DA X G W (e :: es) waa)
    (hdb : (x == ("__debug__" : Str)) = false := by decide) (he : starEach (e :: es) X.env = (false, eval e X.env) :: starEach es X.env := by rfl) (hpl : (backTo pos (starEach es X.env)).any (·.1) = false := by rfl) : DE X G W (.Call (.Name x p) (e :: es) [] pos) (wCallF n S waa) :=
  de_call (C8.pe_c c hr hk hg ha hdb he hpl) hS
/-- a call of a def that may raise -/
theorem de_cX (c : CalX X.prog X.w X.K X.mg X.base k x (dSp X.K n S)) (tk : Takes X W) (hr : Room j X.A) (hk : k ≤ j) (hg : Gl X x) (ha : DA X G W (e :: es) waa)
    (hdb : (x == ("__debug__" : Str)) = false := by decide) (he : starEach (e :: es) X.env = (false, eval e X.env) :: starEach es X.env := by rfl) (hpl : (backTo pos (starEach es X.env)).any (·.1) = false := by rfl) : DE X G W (.Call (.Name x p) (e :: es) [] pos) (wCallF n S waa) := by
  obtain ⟨f, fd, ps, F, hm, kp, b⟩ := c.ex
  exact de_callX (pe_callS F (hr.mono hk) hg hm kp b (passAt tk) ha hdb he hpl)
end
end DW
set_option Elab.async false
set_option linter.all false
set_option maxRecDepth 100000
set_option maxHeartbeats 4000000
namespace DW
open PySem PySem.Spec L2
/-! ### the law's drawer: the script is copied, numbers are handed out -/
abbrev rAbs : List V → Hp → VK → Prop := fun xs H Q => ∃ i, xs = [.int i] ∧ Q (.int (if i < 0 then -i else i)) H
abbrev rInt : List V → Hp → VK → Prop := fun xs H Q => (∃ i, xs = [.int i] ∧ Q (.int i) H) ∨ ∃ k, xs = [.bl k] ∧ Q (.int (if k then 1 else 0)) H
abbrev rListOf (K : PySem.W.Frag) : List V → Hp → VK → Prop := fun xs H Q => ∃ p ys, xs = [.ref p] ∧ (SqL K H p ys ∨ SqT K H p ys) ∧ ∀ l, H l = none → Q (.ref l) (upd H l (.lst ys))
abbrev rAdd : R2 := rI0 fun i j => .int (i + j)
abbrev rLt : R2 := rI0 fun i j => .bl (decide (i < j))
abbrev rGt : R2 := rI0 fun i j => .bl (decide (j < i))
abbrev rMod : R2 := rI (fun _ j => 0 < j) fun i j => .int (i % j)
abbrev rMul : R2 := rI CMul fun i j => .int (i * j)
abbrev rPow : R2 := rI CPow fun i j => .int (i ^ j.toNat)
abbrev rDiv : R2 := rI CDiv fun i j => .int (i / j)
abbrev rDivN : R2 := fun x y H Q => ∃ n m : Nat, x = .int (n : Int) ∧ y = .int (m : Int) ∧ (1 ≤ m ∧ m < 1073741824) ∧ Q (.int ((n / m : Nat) : Int)) H
abbrev rd (K : PySem.W.Frag) (j : Int) : TE := tOp (rIxL K) (tVar 0) (tC (.int j))
abbrev wr (j : Int) : TG := gSub (tVar 0) (tC (.int j)) rSetL
abbrev toI (t : TE) : TE := tCB rInt (tCons t tNil)
def t_take (K : PySem.W.Frag) : TS :=
  tSeq (tIfS (tAnd (tTest (tOp rEq (rd K 2) (tC (.int 0)))) (tTest (tOp rLt (rd K 1) (tCB (rLen K) (tCons (rd K 0) tNil)))))
    (tSeq (tAsg (tCB rAbs (tCons (toI (tOp (rIxL K) (rd K 0) (rd K 1))) tNil)) (wr 2))
    (tSeq (tAsg (tOp rAdd (rd K 1) (tC (.int 1))) (wr 1))
    (tIfS (tTest (tOp rLt (rd K 2) (tOp rPow (tC (.int 10)) (tC (.int 18))))) (tSeq (tAsg (toI (rd K 2)) (gName 2)) (tSeq (tAsg (tC (.int 0)) (wr 2)) (tRet (tOp rMod (tVar 2) (tVar 1))))) tNext)))
    tNext)
  (tSeq (tIfS (tTest (tOp rGt (rd K 2) (tC (.int 0)))) (tSeq (tAsg (tOp rMod (toI (rd K 2)) (tVar 1)) (gName 3)) (tSeq (tAsg (tOp rDivN (toI (rd K 2)) (tVar 1)) (wr 2)) (tRet (tVar 3)))) tNext)
  (tSeq (tAsg (tOp rMod (toI (tOp rAdd (tOp rMul (rd K 3) (tC (.int 48271))) (tC (.int 11)))) (tC (.int 2147483647))) (wr 3))
  (tRet (tOp rMod (toI (tOp rDiv (rd K 3) (tC (.int 3)))) (tVar 1)))))
def t_begin (K : PySem.W.Frag) : TS :=
  tSeq (tAsg (tC (.int 1)) (gName 1))
  (tSeq (tFor (iList K (tVar 0)) (gName 2) (tAsg (tOp rMod (tOp rAdd (tOp rAdd (tOp rMul (tVar 1) (tC (.int 69621))) (tOp rMod (toI (tVar 2)) (tC (.int 2147483629)))) (tC (.int 7))) (tC (.int 2147483647))) (gName 1)))
  (tRet (tLst (tCons (tCB (rListOf K) (tCons (tVar 0) tNil)) (tCons (tC (.int 0)) (tCons (tC (.int 0)) (tCons (tVar 1) tNil)))))))
/-- a number below m, whichever -/
def S_take : DSpec := fun rs P _ => ∃ m : Int, rs = [.drw, .im (.int m)] ∧ 1 ≤ m ∧ m < 1073741824 ∧ ∀ r, 0 ≤ r → r < m → P (.im (.int r))
section
variable {K : PySem.W.Frag} {σ : L2.St} {H : Hp} {a : Addr} {Q : VK} {xs : List V}
theorem rd_run {j : Int} {v : V} (h0 : σ[0]? = some (some (.ref a))) (hH : H a = some (.lst xs)) (hj : atI xs j = some v) (q : Q v H) : rd K j σ H Q := ⟨_, h0, _, _, _, _, rfl, rfl, SqL.of hH, hj, q⟩
theorem wr_run {j : Int} {v : V} {i : Nat} {Qs : L2.St → Hp → Prop} (h0 : σ[0]? = some (some (.ref a))) (hH : H a = some (.lst xs)) (hj : ixN xs.length j = some i) (q : Qs σ (upd H a (.lst (xs.set i v)))) : wr j v σ H Qs := ⟨_, h0, _, _, _, _, rfl, rfl, hH, hj, q⟩
end
theorem big_abs {n : Int} (h : Big n) : Big (if n < 0 then -n else n) := by
  unfold Big at *
  split
  · rw [Int.natAbs_neg]; exact h
  · exact h
theorem big_div {r : Int} {m : Nat} (h0 : 0 ≤ r) (h : Big r) : Big ((r.toNat / m : Nat) : Int) := by
  unfold Big at *
  rw [Int.natAbs_natCast]
  refine Nat.lt_of_le_of_lt (Nat.div_le_self _ _) ?_
  rw [show r.toNat = r.natAbs by omega]
  exact h
theorem Ext.turn {w : Option Dw} {F H : Hp} {d : Dw} {i : Nat} {r c : Int} (x : Ext w F H F H) (e : w = some d) (h1 : 0 ≤ r) (h2 : Big r) (h3 : 0 ≤ c) (h4 : c < 2147483647) : Ext w F H F (upd H d.a (.lst [.ref d.s, .int i, .int r, .int c])) where
  fs := Sub.refl
  le := fun b o eb => by
    have n : b ≠ d.a := fun z => by subst z; rw [(x.dr d e).free] at eb; cases eb
    rw [upd_ne n]; exact x.le b o eb
  hs := fun b o eb nd => by rw [upd_ne (fun z => nd d e z.symm)]; exact eb
  new := fun b eb => .inl eb
  dr := fun d' e' => by
    obtain rfl : d = d' := by rw [e] at e'; exact Option.some.inj e'
    have o := x.dr d e
    exact ⟨o.free, ⟨i, r, c, upd_same, h1, h2, h3, h4⟩, o.copy, o.few, o.big⟩
theorem upd_upd {H : Hp} {a : Addr} {u v : HO} : upd (upd H a u) a v = upd H a v := by
  funext b
  by_cases h : b = a
  · subst h; rw [upd_same, upd_same]
  · rw [upd_ne h, upd_ne h, upd_ne h]

abbrev nTake : List Str := ["d", "many", "small", "digit"]
abbrev ph3 (K : PySem.W.Frag) : TS := tSeq (tAsg (tOp rMod (toI (tOp rAdd (tOp rMul (rd K 3) (tC (.int 48271))) (tC (.int 11)))) (tC (.int 2147483647))) (wr 3)) (tRet (tOp rMod (toI (tOp rDiv (rd K 3) (tC (.int 3)))) (tVar 1)))
abbrev ph2 (K : PySem.W.Frag) : TS := tSeq (tIfS (tTest (tOp rGt (rd K 2) (tC (.int 0)))) (tSeq (tAsg (tOp rMod (toI (rd K 2)) (tVar 1)) (gName 3)) (tSeq (tAsg (tOp rDivN (toI (rd K 2)) (tVar 1)) (wr 2)) (tRet (tVar 3)))) tNext) (ph3 K)
theorem sem_take {K : PySem.W.Frag} {vs : List V} {H : Hp} {Q : VK} {E : XK} (h : dSp K 2 S_take vs H Q E) : t_take K { nx := fun _ H' => Q .non H', rt := Q } (L2.start nTake vs) H := by
  obtain ⟨w, F, rs, P, PX, x, q, g, hl, ⟨m, rfl, m1, m2, p⟩, kq, _⟩ := h
  cases q with
  | cons q1 q2 =>
  cases q2 with
  | cons q2 q3 =>
  cases q3
  cases q2
  obtain ⟨d, ew, rfl⟩ := q1
  have o := x.dr d ew
  obtain ⟨i, r, c, hd, r0, rb, c0, c1⟩ := o.at_
  have hs : H d.s = some (.lst (d.ns.map V.int)) := x.le _ _ o.copy
  have ne : d.s ≠ d.a := fun z => by have := o.copy; rw [z, o.free] at this; cases this
  have fin : ∀ (i : Nat) (r c : Int) (z : Int), 0 ≤ r → Big r → 0 ≤ c → c < 2147483647 → 0 ≤ z → z < m → Q (.int z) (upd H d.a (.lst [.ref d.s, .int i, .int r, .int c])) := fun i r c z h1 h2 h3 h4 h5 h6 => kq _ _ _ (.im (.int z)) (x.turn ew h1 h2 h3 h4) (.int z) rfl (p z h5 h6)
  have third : ∀ (H1 : Hp) (i : Nat) (r c : Int) (a b : Option V), H1 d.a = some (.lst [.ref d.s, .int i, .int r, .int c]) → (∀ u, upd H1 d.a u = upd H d.a u) → 0 ≤ r → Big r → 0 ≤ c → c < 2147483647 → ph3 K { nx := fun _ H' => Q .non H', rt := Q } [some (.ref d.a), some (.int m), a, b] H1 := by
    intro H1 i r c a b hd hu h1 h2 h3 h4
    have e1 : 0 ≤ (c * 48271 + 11) % 2147483647 := Int.emod_nonneg _ (by decide)
    have e2 : (c * 48271 + 11) % 2147483647 < 2147483647 := Int.emod_lt_of_pos _ (by decide)
    refine rd_run rfl hd rfl ⟨_, _, rfl, rfl, .inl ⟨by omega, by omega⟩, _, _, rfl, rfl, .inl ⟨_, rfl, _, _, rfl, rfl, (show (0 : Int) < 2147483647 by decide), wr_run rfl hd rfl ?_⟩⟩
    refine rd_run rfl upd_same rfl ⟨_, _, rfl, rfl, ⟨by decide, by decide⟩, .inl ⟨_, rfl, _, rfl, _, _, rfl, rfl, by omega, ?_⟩⟩
    rw [hu]
    exact fin i r _ _ h1 h2 e1 e2 (Int.emod_nonneg _ (by omega)) (Int.emod_lt_of_pos _ (by omega))
  have second : ∀ (H1 : Hp) (i : Nat) (r c : Int) (a b : Option V), H1 d.a = some (.lst [.ref d.s, .int i, .int r, .int c]) → (∀ u, upd H1 d.a u = upd H d.a u) → 0 ≤ r → Big r → 0 ≤ c → c < 2147483647 → ph2 K { nx := fun _ H' => Q .non H', rt := Q } [some (.ref d.a), some (.int m), a, b] H1 := by
    intro H1 i r c a b hd hu h1 h2 h3 h4
    refine rd_run rfl hd rfl ⟨_, _, rfl, rfl, _, rfl, ?_⟩
    by_cases hr : 0 < r
    · show (if _ = true then _ else _); rw [if_pos (decide_eq_true hr)]
      refine rd_run rfl hd rfl (.inl ⟨_, rfl, _, rfl, _, _, rfl, rfl, by omega, ?_⟩)
      refine rd_run rfl hd rfl (.inl ⟨_, rfl, _, rfl, r.toNat, m.toNat, by rw [Int.toNat_of_nonneg h1], by rw [Int.toNat_of_nonneg (by omega)], ⟨by omega, by omega⟩, wr_run rfl hd rfl ⟨_, rfl, ?_⟩⟩)
      rw [hu]
      exact fin i _ c _ (Int.natCast_nonneg _) (big_div h1 h2) h3 h4 (Int.emod_nonneg _ (by omega)) (Int.emod_lt_of_pos _ (by omega))
    · show (if _ = true then _ else _); rw [if_neg (by simpa using hr)]
      exact third H1 i r c a b hd hu h1 h2 h3 h4
  show tIfS _ _ _ _ [some (.ref d.a), some (.int m), none, none] H
  refine rd_run rfl hd rfl ⟨rfl, _, rfl, ?_⟩
  by_cases hr : r = 0
  · subst hr
    show (if _ = true then _ else _); rw [if_pos (by decide)]
    refine rd_run rfl hd rfl (rd_run rfl hd rfl ⟨_, _, rfl, .inl ⟨_, SqL.of hs, rfl⟩, _, _, rfl, rfl, _, rfl, ?_⟩)
    show (if decide (_ < ((List.map V.int _).length : Int)) = true then _ else _)
    rw [List.length_map]
    by_cases hi : i < d.ns.length
    · rw [if_pos (decide_eq_true (by omega))]
      have hz : atI (d.ns.map V.int) (i : Int) = some (.int d.ns[i]) := by
        unfold atI ixN
        rw [List.length_map, if_pos (Int.natCast_nonneg _), if_pos (by omega)]
        simp [hi]
      have bz : Big d.ns[i] := o.big _ (List.getElem_mem hi)
      generalize d.ns[i] = z at hz bz
      have ba := big_abs bz
      have na : 0 ≤ (if z < 0 then -z else z) := by split <;> omega
      refine rd_run rfl hd rfl (rd_run rfl hd rfl ⟨_, _, _, _, rfl, rfl, SqL.of hs, hz, .inl ⟨_, rfl, _, rfl, ?_⟩⟩)
      generalize (if z < 0 then -z else z) = y at ba na
      refine wr_run rfl hd rfl ?_
      refine rd_run rfl upd_same rfl ⟨_, _, rfl, rfl, wr_run rfl upd_same rfl ?_⟩
      rw [upd_upd]
      refine rd_run rfl upd_same rfl ⟨_, _, rfl, rfl, ⟨by decide, by decide, by decide⟩, _, _, rfl, rfl, _, rfl, ?_⟩
      show (if _ = true then _ else _)
      by_cases hy : y < 10 ^ (18 : Int).toNat
      · rw [if_pos (decide_eq_true hy)]
        refine rd_run rfl upd_same rfl (.inl ⟨_, rfl, ?_⟩)
        refine wr_run rfl upd_same rfl ⟨_, rfl, _, rfl, _, _, rfl, rfl, by omega, ?_⟩
        rw [upd_upd]
        exact fin (i + 1) 0 c _ (by decide) (Nat.two_pow_pos _) c0 c1 (Int.emod_nonneg _ (by omega)) (Int.emod_lt_of_pos _ (by omega))
      · rw [if_neg (by simpa using hy)]
        exact second _ (i + 1) y c none none upd_same (fun _ => upd_upd) na ba c0 c1
    · rw [if_neg (by simp; omega)]
      exact second H i 0 c none none hd (fun _ => rfl) r0 rb c0 c1
  · show (if _ = true then _ else _); rw [if_neg (by simp [hr])]
    exact second H i r c none none hd (fun _ => rfl) r0 rb c0 c1

/-- the drawer is made -/
def spBegin (K : PySem.W.Frag) : Sp := fun vs H Q _ => ∃ (a : Addr) (ns : List Int), vs = [.ref a] ∧ SqL K H a (ns.map V.int) ∧ ∀ (H' : Hp) (p q : Addr) (c : Int), Sub H H' → H p = none → H q = none → p ≠ q →
  H' q = some (.lst (ns.map V.int)) → H' p = some (.lst [.ref q, .int 0, .int 0, .int c]) → 0 ≤ c → c < 2147483647 → Q (.ref p) H'
abbrev nBegin : List Str := ["script", "seed", "cell"]
theorem sem_begin {K : PySem.W.Frag} {vs : List V} {H : Hp} {Q : VK} {E : XK} (h : spBegin K vs H Q E) : t_begin K { nx := fun _ H' => Q .non H', rt := Q } (L2.start nBegin vs) H := by
  obtain ⟨a, ns, rfl, hs, k⟩ := h
  have e0 : (L2.start nBegin [V.ref a]).set 1 (some (.int 1)) = [some (.ref a), some (.int 1), none] := rfl
  show tSeq (tFor (iList K (tVar 0)) (gName 2) (tAsg (tOp rMod (tOp rAdd (tOp rAdd (tOp rMul (tVar 1) (tC (.int 69621))) (tOp rMod (toI (tVar 2)) (tC (.int 2147483629)))) (tC (.int 7))) (tC (.int 2147483647))) (gName 1))) _ _ ((L2.start nBegin [V.ref a]).set 1 (some (.int 1))) H
  rw [e0]
  have hl : (ns.map V.int).length = ns.length := List.length_map ..
  refine ⟨_, rfl, a, rfl, ⟨_, hs⟩, fun i m σ H' => m = ns.length - i ∧ i ≤ ns.length ∧ H' = H ∧ ∃ c b, σ = [some (.ref a), some (.int c), b] ∧ 0 ≤ c ∧ c < 2147483647, ⟨_, rfl, Nat.zero_le _, rfl, 1, none, rfl, by decide, by decide⟩, ?_⟩
  rintro i m σ H' ⟨rfl, hi, rfl, c, b, rfl, c0, c1⟩
  by_cases hlt : i < ns.length
  · refine .inr ⟨⟨_, .int ns[i], hs, by simp [hlt]⟩, fun σ H'' => i + 1 ≤ ns.length ∧ H'' = H' ∧ ∃ c b, σ = [some (.ref a), some (.int c), b] ∧ 0 ≤ c ∧ c < 2147483647, fun σ' H'' n => ⟨_, ?_, rfl, n⟩, fun x H'' y => ?_⟩
    · omega
    obtain ⟨rfl, y⟩ := y
    have ex : x = .int ns[i] := by
      have := y _ hs
      simp [hlt] at this
      exact this.symm
    subst ex
    refine ⟨_, rfl, _, _, rfl, rfl, .inl ⟨by omega, by omega⟩, _, rfl, .inl ⟨_, rfl, _, _, rfl, rfl, (show (0 : Int) < 2147483629 by decide), _, _, rfl, rfl, _, _, rfl, rfl, _, _, rfl, rfl, (show (0 : Int) < 2147483647 by decide), hlt, rfl, _, _, rfl, Int.emod_nonneg _ (by decide), Int.emod_lt_of_pos _ (by decide)⟩⟩
  · have e : i = ns.length := by omega
    subst e
    refine .inl ⟨⟨_, hs, by rw [hl]; exact Nat.le_refl _⟩, ?_⟩
    refine ⟨_, rfl, a, _, rfl, .inl hs, fun q hq => ⟨_, rfl, (show (4 : Nat) ≤ sizeLine by decide), fun p hp => ?_⟩⟩
    have ne : p ≠ q := fun z => by subst z; rw [upd_same] at hp; cases hp
    rw [upd_ne ne] at hp
    exact k _ p q c ((upd_grow hq).trans (upd_grow (by rw [upd_ne ne]; exact hp))) hp hq ne (by rw [upd_ne (Ne.symm ne), upd_same]) upd_same c0 c1
end DW
set_option Elab.async false
set_option linter.all false
set_option maxRecDepth 100000
set_option maxHeartbeats 4000000
namespace DW
open PySem PySem.Spec PyProof.Rows L2 PpSet
/-! ### set(bs), all the same truth value -/
section
variable {P0 : Program} {w : World} {A : Around} {R : Result → Shared → Prop} {I : Addr} {fp wr : List Addr} {G : Array GenState → Array GenState → Prop} {n : Nat} {Pv : Nat → Value → Prop} {St : Nat → Shared → Prop}
/-- the members behind i turns -/
abbrev memB (b : Bool) (i : Nat) : Bool → Bool := fun k => decide (0 < i) && decide (k = b)
theorem loopB (Wk : WalksS P0 w A.in1 I fp wr G n Pv St) (S : Addr) (off : S ∉ fp) (b : Bool) (hval : ∀ i v, Pv i v → v = .bool b) : ∀ (k i : Nat) (s : Shared), n - i = k → i ≤ n → St i s → s.heap.SetOf (boolK P0 w) S (memB b i) (min i 1) →
      (∀ t, Moved (S :: wr) G s t → t.heap.SetOf (boolK P0 w) S (memB b n) (min n 1) → R (.ok (.ret .none)) t) → codeAny (model P0 w) A (.builtin "set.update.loop" ⟨[.ref S, .ref I], []⟩) R s := by
  have offw : S ∉ wr := fun h => off (Wk.sub _ h)
  have more : ∀ c ∈ wr, c ∈ S :: wr := fun c hc => List.mem_cons_of_mem _ hc
  intro k
  induction k with
  | zero =>
    intro i s hk hi hst hS hR
    obtain rfl : i = n := by omega
    refine codeAny_builtin PyProof.Rows.F.entry_set_update_loop ?_
    rw [Around.under_plainId PyProof.Rows.F.plain_set_update_loop _]
    refine (show wpAny _ A.in1 (pyNext (.ref I) >>= _) _ _ s from wpAny_bind (Wk.done s _ _ hst fun t hm => ?_))
    refine (show wpAny _ A.in1 (ret Value.none) _ _ t from wpAny_pure (hR t (hm.mono more) ?_))
    obtain ⟨o, es, ep, tb, ho, more2⟩ := hS
    exact ⟨o, es, ep, tb, hm.heap S _ offw ho, more2⟩
  | succ k ih =>
    intro i s hk hi hst hS hR
    have lt : i < n := by omega
    refine codeAny_builtin PyProof.Rows.F.entry_set_update_loop ?_
    rw [Around.under_plainId PyProof.Rows.F.plain_set_update_loop _]
    refine (show wpAny _ A.in1 (pyNext (.ref I) >>= _) _ _ s from wpAny_bind (Wk.item i s _ _ lt hst fun v t hP ht hm => ?_))
    obtain rfl := hval i v hP
    have hS1 : t.heap.SetOf (boolK P0 w) S (memB b i) (min i 1) := by
      obtain ⟨o, es, ep, tb, ho, more2⟩ := hS
      exact ⟨o, es, ep, tb, hm.heap S _ offw ho, more2⟩
    refine (show wpAny _ A.in1 (holding [Value.bool b] (setAdd S (.bool b)) >>= _) _ _ t from wpAny_bind (wpAny_holding ?_))
    unfold setAdd
    refine wpAny_holding (wpAny_bind ((boolK P0 w).pyHash (k := b) (boolK_is _ _ _) ?_))
    refine wpAny_setAddHashed_of (knd := boolK P0 w) (s := { t with toks := t.toks + 1 }) (boolK_is _ _ _) rfl hS1 (by unfold scanBound; omega) fun h' sb hS2 => ?_
    have hS3 : h'.SetOf (boolK P0 w) S (memB b (i + 1)) (min (i + 1) 1) := by
      refine SetOf_congr hS2 (fun k' => ?_) ?_
      · show (decide (0 < i) && decide (k' = b) || decide (k' = b)) = (decide (0 < i + 1) && decide (k' = b))
        by_cases e : k' = b <;> simp [e]
      · by_cases e : 0 < i
        · simp [memB, e]; omega
        · have : i = 0 := by omega
          subst this; simp [memB]
    refine wpAny_pure ⟨plainId_quiet PyProof.Rows.F.plain_set_update_loop _, ih (i + 1) _ (by omega) lt (Wk.frame _ t _ _ ht (Nat.le_succ _) fun c hc o e => ?_) hS3 fun u hm2 hS4 => ?_⟩
    · exact (sb.2 c (fun z : c = S => off (z ▸ hc))).trans e
    · refine hR u (Moved.trans Wk.gtrans ((hm.mono more).then_heap (Nat.le_succ _) fun c o hc e => ?_) hm2) hS4
      exact (sb.2 c (fun z : c = S => hc (z ▸ List.mem_cons_self))).trans e
end
section
variable {P0 : Program} {w : World} {A : Around} {E : Value → Shared → Prop} {s : Shared}
set_option maxHeartbeats 3200000 in
theorem set_ofB {l : Addr} {us : Array Value} {b : Bool} {Q : Value → Shared → Prop} (hh : A.handled = none) (hl : s.heap.IsList l us) (hall : ∀ (i : Nat) (v : Value), us[i]? = some v → v = .bool b)
    (hQ : ∀ (h' : Heap) (tk : Nat), h'.SetOf (boolK P0 w) s.heap.objs.size (memB b us.size) (min us.size 1) → (∀ c o, c < s.heap.objs.size → s.heap.get? c = some o → h'.get? c = some o) → Q (.ref s.heap.objs.size) { s with heap := h', toks := tk }) : wpAny (model P0 w) A (call (.type "set") [.ref l]) Q E s := by
  have f1 := PySem.F.called_set.notType; have f2 := PySem.F.called_set.canCreate; have f3 := PySem.F.typeCall_set_1 (.ref l); have f4 := PySem.F.called_set.made; have f5 := PySem.F.called_set.sub
  obtain ⟨c, tl, hmro⟩ := PySem.F.called_set.mro
  refine (wpAny_call (codeAny_of_tree (show wpAny _ _ (callAny (.type "set") _) _ _ _ from wpAny_pure ⟨Code.quiet_builtin _ (by decide +kernel), codeAny_builtin PySem.F.entry_type_call ?_⟩)))
  rw [Around.under_plain (weight_type_call_type "set" [.ref l] []) rfl]
  repeat (any_goals first | assumption | wp_step)
  refine codeAny_mono (code_set_new_1 (.ref l) (E := E) (Q₁ := fun z t => ∃ led : Bool, z = .ref s.heap.objs.size ∧ t = { s with heap := s.heap.push { cls := .type "set", dict := none, data := .set #[] 0 (.fresh 0 0 led) } }) fun led => ⟨led, rfl, rfl⟩) fun r t hr => ?_
  cases r with
  | error e => exact hr
  | ok fl =>
    cases fl with
    | ret z =>
      obtain ⟨led, rfl, rfl⟩ := hr
      have gS : (s.heap.push { cls := .type "set", dict := none, data := .set #[] 0 (.fresh 0 0 led) }).get? s.heap.objs.size = some { cls := .type "set", dict := none, data := .set #[] 0 (.fresh 0 0 led) } := (Heap.get?_push_size _ rfl)
      have tS : Shared.TypeIs { s with heap := s.heap.push { cls := .type "set", dict := none, data := .set #[] 0 (.fresh 0 0 led) } } (.ref s.heap.objs.size) "set" := (⟨_, gS, rfl⟩)
      have b1 := PySem.F.called_set.init.lookup; have b2 := PySem.F.called_set.init.bind (.ref s.heap.objs.size)
      repeat (any_goals first | assumption | wp_step)
      refine codeAny_mono (codeAny_call_builtin (R := wants (fun r t => r = .none ∧ ∃ h' tk, t = { s with heap := h', toks := tk } ∧ h'.SetOf (boolK P0 w) s.heap.objs.size (memB b us.size) (min us.size 1) ∧ (∀ c o, c < s.heap.objs.size → s.heap.get? c = some o → h'.get? c = some o)) E) PySem.F.called_set.init.plain PySem.F.entry_set_init (check_set_init_1 tS ?_)) fun r2 t2 hr2 => ?_
      · obtain ⟨⟨k1, k2, k3, k4⟩, hol, hcl, nl, hdl⟩ := hl
        simp only at hcl hdl
        subst hcl; subst hdl
        have hol2 : (s.heap.push { cls := .type "set", dict := none, data := .set #[] 0 (.fresh 0 0 led) }).get? l = some { cls := .type "list", dict := k2, data := .seq us nl, slots := k4 } := Heap.get?_push_of_some _ hol
        have n1 := PySem.F.sub_list_set; have n2 := PySem.F.sub_list_frozenset
        have n3 : (Value.type "list" == Value.type "dict") = false := by decide
        have hl1 : (s.heap.push { cls := .type "set", dict := none, data := .set #[] 0 (.fresh 0 0 led) }).IsList l us := ⟨_, hol2, rfl, nl, rfl⟩
        unfold Builtin.«set.__init__» noKeywords Builtin.Frozenset.updateFrom
        generalize ePI : pyIter = PI
        wp_walk
        subst ePI
        refine wpAny_pyIter_list hl1 ?_; refine wpAny_bind (wpAny_runValue ?_)
        have lS : l < s.heap.objs.size := Heap.lt_size hol
        have hnone : A.in1.in1.in1.handled = none := by simp [hh]
        have ne1 : l ≠ (s.heap.push { cls := .type "set", dict := none, data := .set #[] 0 (.fresh 0 0 led) }).objs.size := by rw [Heap.size_push]; exact Nat.ne_of_lt (Nat.lt_succ_of_lt lS)
        have off : s.heap.objs.size ∉ [(s.heap.push { cls := .type "set", dict := none, data := .set #[] 0 (.fresh 0 0 led) }).objs.size, l] := by
          rw [Heap.size_push]
          intro hm
          rcases List.mem_cons.mp hm with z | z
          · exact absurd z (Nat.ne_of_lt (Nat.lt_succ_self _))
          · exact absurd (List.mem_singleton.mp z) (Nat.ne_of_gt lS)
        refine loopB ((Walks.list hnone _ l ne1 us).toS) s.heap.objs.size off b (fun i v hv => hall i v hv) (us.size - 0) 0 _ (by omega) (Nat.zero_le _) ⟨⟨_, Heap.get?_push_size _ rfl, rfl, rfl⟩, (hl1.push _)⟩ ?start ?fin
        case start =>
          have gg := Heap.get?_push_of_some { cls := .type "list_iterator", data := .fields #[.ref l, .int 0 0] } gS
          refine PyProof.Rows.SetOf_congr ((PyProof.Rows.setObjOf_fresh (knd := boolK P0 w) led).setOf gg (by unfold scanBound; omega)) (fun k => ?_) rfl
          first | rfl | simp [memB]
        case fin =>
          rintro ⟨h', g', d', tk', os'⟩ hm hS'
          obtain rfl : g' = s.gens := hm.gens
          obtain rfl : d' = s.drawn := hm.drawn
          obtain rfl : os' = s.os := hm.os
          refine (show wpAny _ _ _ _ _ _ from wpAny_pure (show wpAny _ _ (ret Value.none) _ _ _ from wpAny_pure ⟨rfl, h', tk', rfl, hS', fun c o hc e => ?_⟩))
          refine hm.heap c o (fun hm2 => ?_) (Heap.get?_push_of_some _ (Heap.get?_push_of_some _ e))
          rcases List.mem_cons.mp hm2 with z | z
          · exact absurd z (Nat.ne_of_lt hc)
          · have := List.mem_singleton.mp z
            rw [Heap.size_push] at this
            exact absurd this (Nat.ne_of_lt (Nat.lt_succ_of_lt hc))
      · cases r2 with
        | error e => exact hr2
        | ok fl2 =>
          cases fl2 with
          | ret r =>
            obtain ⟨rfl, h', tk, rfl, hS', hk'⟩ := hr2
            repeat (any_goals first | assumption | wp_step)
            exact hQ _ _ hS' hk'
          | _ => exact hr2.elim
    | _ => exact hr.elim
end
section
variable {X : Cx} {a : Expr} {ta : TE} {p p2 q pos : Pos}
theorem vals_bl {b : Bool} : ∀ {n : Nat} {its : List Value}, Vals (List.replicate n (V.bl b)) its → ∀ (i : Nat) (v : Value), its[i]? = some v → v = .bool b
  | 0, _, h, i, v, e => by cases h; simp at e
  | n + 1, _, h, i, v, e => by
    rw [List.replicate_succ] at h
    cases h with
    | cons r t =>
      cases i with
      | zero => simp at e; subst e; exact r
      | succ i => exact vals_bl t i v (by simpa using e)
theorem pe_lenSetB (hc : X.calm = true) (hg : Gl X "len") (hm : X.mg "len" = none) (hg2 : Gl X "set") (hm2 : X.mg "set" = none) (ha : PE X a ta) (na : starEach [a] X.env = (false, eval a X.env) :: starEach [] X.env := by rfl) :
    PE X (.Call (.Name "len" p) [.Call (.Name "set" p2) [a] [] q] [] pos) (fun σ H Q => ta σ H fun x H1 => ∃ (l : Addr) (b : Bool) (n : Nat), x = .ref l ∧ SqL X.K H1 l (List.replicate n (V.bl b)) ∧ Q (.int (min n 1 : Nat)) H1) := ⟨fun pins s σ H Q I h => by
  refine Call_ (ld_blt I hg hm boot_len (callWith_builtin1 (args_cons ?_ rfl) rfl rfl))
  refine Call_ (ld_blt I hg2 hm2 boot_set (callWith_type1 (args_cons (thn (ha.run pins s σ H _ I h) fun v s1 ⟨x, H1, I1, r1, l, b, n, ex, hq, q1⟩ => args_nil ?_) na) na rfl))
  subst ex
  cases r1
  obtain ⟨its, r, pl, hz⟩ := I1.list hq
  have hn : its.toArray.size = n := by rw [List.size_toArray, ← r.length, List.length_replicate]
  refine set_ofB (I1.ok.hd hc) pl.isList (b := b) (fun i v hv => vals_bl r i v (by simpa using hv)) fun h' tk hS hk => args_nil ?_
  rw [hn] at hS
  obtain ⟨o, es, ep, t, ho, hex, hd, _, _, hb, hf, hsz⟩ := hS
  have I2 : Inv X pins σ H1 { s1 with heap := h', toks := tk } := I1.kept fun c o e => hk c o (Heap.lt_size e) e
  exact call_len_set ho hex hd hf (by rw [hsz]; omega) ⟨.int (min n 1 : Nat), H1, I2.tok _, ⟨_, by rw [hsz]⟩, q1⟩⟩
end
end DW
set_option Elab.async false
set_option linter.all false
set_option maxRecDepth 100000
set_option maxHeartbeats 4000000
namespace DW
open PySem PySem.Spec L2
theorem room_units {k : Nat} {A : Around} (r : Room k A) : A.units + 1 < cLine ∧ A.units + 64 < cLine ∧ A.units + 65 < cLine := by
  have := r.un
  exact ⟨by omega, by omega, by omega⟩
/-- an own exception class: what the head tells -/
structure XF (K : PySem.W.Frag) (mg : Str → Option Value) (x : Str) : Prop where
  glo : mg x = some (.ref (He.ga K x))
  exc : PySem.W.excIn K (He.ga K x) He.veBase "ValueError.__new__" = true
  keep : PySem.W.keepIn K (.ref (He.ga K x)) = true
  sub : PySem.W.subIn K (.ref (He.ga K x)) (.type "BaseException") = some true
  typ : PySem.W.typeIn K (.ref (He.ga K x)) = some (.type "type")
section
variable {K : PySem.W.Frag} {w : Option Dw} {G : Gd} {F F1 F2 H H1 H2 : Hp} {σ : L2.St} {δ : DEnv}
variable {X : Cx} {W : WX} {st : Bool} {tg iter e a b c elt o kx vx : Expr} {es rest : List Expr} {we wa wb wc wk wv wo : WE'} {wt wu : WT} {waa : WA} {pos p q np pos' apos cpos py spos : Pos} {s b₀ : Stmt} {body suite : List Stmt} {ws wss : WS} {x y : Str}
theorem de_glI {i : Int} (hg : Gl X x) (h : ∃ t, X.mg x = some (.int i t)) (hd : (x == ("__debug__" : Str)) = false := by decide) : DE X G W (.Name x pos) (wC (.int i)) := by
  obtain ⟨t, h⟩ := h
  exact de_con (pe_glob (v := .int i) hg h ⟨t, rfl⟩ hd) fun _ => .int i
theorem de_neg {j : Nat} {z : Int} {p3 : Pos} : DE X G W (.UnaryOp .USub (.Constant (.int z) j p3) pos) (wC (.int (-z))) := PE.imp (pe_un un_neg pe_int) fun σ H Q ⟨F, δ, P, PX, S, p, k, xk⟩ => ⟨z, rfl, k _ F H (.im (.int (-z))) S.ext.stay (.int _) p⟩
theorem dt_inL (hu : X.A.units + 65 < cLine) (ha : DE X G W a wa) (hb : DE X G W b wb) (hm : behindInMarks .In b = false := by rfl) : DT X G W (.Compare a [.In] [b] pos) (wB (wOp (kInL false) wa wb)) := dt_cmp (op_inD hu) opd_inL ha hb hm
theorem dt_notInL (hu : X.A.units + 65 < cLine) (ha : DE X G W a wa) (hb : DE X G W b wb) (hm : behindInMarks .NotIn b = false := by rfl) : DT X G W (.Compare a [.NotIn] [b] pos) (wB (wOp (kInL true) wa wb)) := dt_cmp (op_notInD hu) opd_notInL ha hb hm
theorem dt_inT (ha : DE X G W a wa) (hb : DE X G W b wb) (hm : behindInMarks .In b = false := by rfl) : DT X G W (.Compare a [.In] [b] pos) (wB (wOp (kInT false) wa wb)) := dt_cmp op_in_seq opd_inT ha hb hm
theorem dt_notInT (ha : DE X G W a wa) (hb : DE X G W b wb) (hm : behindInMarks .NotIn b = false := by rfl) : DT X G W (.Compare a [.NotIn] [b] pos) (wB (wOp (kInT true) wa wb)) := dt_cmp op_notIn_seq opd_notInT ha hb hm
theorem dt_inS (ha : DE X G W a wa) (hb : DE X G W b wb) (hm : behindInMarks .In b = false := by rfl) : DT X G W (.Compare a [.In] [b] pos) (wB (wOp (kInS false) wa wb)) := dt_cmp op_in_sign opd_inS ha hb hm
theorem dt_isN (ha : DE X G W a wa) (hb : DE X G W b wb) : DT X G W (.Compare a [.Is] [b] pos) (wB (wOp kIsN wa wb)) := dt_cmp op_isN opd_isN ha hb (nb _ (by decide) (by decide))
theorem dt_notN (ha : DE X G W a wa) (hb : DE X G W b wb) : DT X G W (.Compare a [.IsNot] [b] pos) (wB (wOp kNotN wa wb)) := dt_cmp op_notN opd_notN ha hb (nb _ (by decide) (by decide))
/-- x = [.. for ..] on one line -/
theorem ds_setLc {i : Nat} {scope : Scope} {own : List (Str × Nat)} {wi : WI} {wg : WG} {ts : List Nat} (hc : X.calm = true) (hN : X.N.Nodup) (hy : X.N[i]? = some y) (hyl : X.env.scope.names.lookup y = some .local)
    (hsw : swapsWith (.ListComp elt [⟨tg, iter, [], 0⟩] scope pos) (some (.Name y py)) spos.line X.env = pure true) (hi : DI X G W st tg iter wi) (ok : BlkOk X.N X.env.scope scope own)
    (hg : ∀ (s : Shared) (H : Hp) (C : Addr) (cl : List (Str × Addr)) (fp : List Addr), DG (X.blk s H scope (compEnvC scope cl C X.env) fp) G ts tg wg)
    (he : ∀ (s : Shared) (H : Hp) (C : Addr) (cl : List (Str × Addr)) (fp : List Addr), DE (X.blk s H scope (compEnvC scope cl C X.env) fp) G wTrue elt we)
    (hts : ∀ t ∈ ts, t ∈ own.map (·.2) := by decide) (hs : ∀ x, foldedSetIterable iter X.env x = pure x := by intro _; rfl) : DS X G W (.Assign [.Name y py] (.ListComp elt [⟨tg, iter, [], 0⟩] scope pos) spos) (sSet i (wLc wi wg wtYes we (own.map (·.2)))) :=
  PS.imp (ps_setLc hc hN hy hyl hsw hi ok hg (fun _ _ _ _ _ => pts_nil) he hs) fun D σ H h => lc_of hts (fun σ H Q ⟨F, δ, P, PX, S, q, k, xk⟩ => k true F H S.ext.stay q) (fun _ _ _ h => h) (set_of h)
theorem ds_setLcIf {i : Nat} {scope : Scope} {own : List (Str × Nat)} {wi : WI} {wg : WG} {ts : List Nat} (hc : X.calm = true) (hN : X.N.Nodup) (hy : X.N[i]? = some y) (hyl : X.env.scope.names.lookup y = some .local)
    (hsw : swapsWith (.ListComp elt [⟨tg, iter, [c], 0⟩] scope pos) (some (.Name y py)) spos.line X.env = pure true) (hi : DI X G W st tg iter wi) (ok : BlkOk X.N X.env.scope scope own)
    (hg : ∀ (s : Shared) (H : Hp) (C : Addr) (cl : List (Str × Addr)) (fp : List Addr), DG (X.blk s H scope (compEnvC scope cl C X.env) fp) G ts tg wg)
    (ht : ∀ (s : Shared) (H : Hp) (C : Addr) (cl : List (Str × Addr)) (fp : List Addr), DT (X.blk s H scope (compEnvC scope cl C X.env) fp) G wTrue c wt)
    (he : ∀ (s : Shared) (H : Hp) (C : Addr) (cl : List (Str × Addr)) (fp : List Addr), DE (X.blk s H scope (compEnvC scope cl C X.env) fp) G wTrue elt we)
    (hts : ∀ t ∈ ts, t ∈ own.map (·.2) := by decide) (hs : ∀ x, foldedSetIterable iter X.env x = pure x := by intro _; rfl) : DS X G W (.Assign [.Name y py] (.ListComp elt [⟨tg, iter, [c], 0⟩] scope pos) spos) (sSet i (wLc wi wg wt we (own.map (·.2)))) :=
  PS.imp (ps_setLc hc hN hy hyl hsw hi ok hg (fun s H C cl fp => pts_one (ht s H C cl fp)) he hs) fun D σ H h => lc_of hts (fun _ _ _ h => h) (fun _ _ _ h => h) (set_of h)
/-- len(set(bs)), at most one truth value -/
def wLenSetB (we : WE') : WE' := fun δ P PX => we δ (fun r => ∃ (b : Bool) (n : Nat), r.lst = some (List.replicate n (PyData.bool b)) ∧ P (.im (.int (if n = 0 then 0 else 1)))) PX
theorem RepL.same {K : PySem.W.Frag} {F : Hp} {b : Bool} : ∀ {n : Nat} {us : List V}, RepL K F us (List.replicate n (PyData.bool b)) → us = List.replicate n (V.bl b)
  | 0, _, h => by cases h; rfl
  | n + 1, _, h => by
    rw [List.replicate_succ] at h
    cases h with
    | cons r t => cases r; rw [RepL.same t]; rfl
theorem de_lenSetB (hc : X.calm = true) (hg : Gl X "len") (hm : X.mg "len" = none) (hg2 : Gl X "set") (hm2 : X.mg "set" = none) (ha : DE X G W a we) (na : starEach [a] X.env = (false, eval a X.env) :: starEach [] X.env := by rfl) : DE X G W (.Call (.Name "len" p) [.Call (.Name "set" np) [a] [] q] [] pos) (wLenSetB we) :=
  PE.imp (pe_lenSetB hc hg hm hg2 hm2 ha na) fun σ H Q ⟨F, δ, P, PX, S, q, k, xk⟩ => by
    refine ⟨F, δ, _, PX, S, q, fun v F1 H1 r x1 q1 ⟨b, n, e, p1⟩ => ?_, xk⟩
    obtain ⟨l, us, rfl, hl, ll⟩ := q1.list x1.le e
    rw [RepL.same ll] at hl
    refine ⟨l, b, n, rfl, hl, k _ F1 H1 (.im (.int (min n 1 : Nat))) x1 (.int _) ?_⟩
    have : ((min n 1 : Nat) : Int) = if n = 0 then 0 else 1 := by split <;> omega
    rw [this]
    exact p1
end
end DW
set_option Elab.async false
set_option linter.all false
set_option maxRecDepth 100000
set_option maxHeartbeats 4000000
namespace DW
open PySem PySem.Spec L2
/-! ### how wishes are met -/
inductive All2 {α β : Type} (C : α → β → Prop) : List α → List β → Prop where
  | nil : All2 C [] []
  | cons {a : α} {b : β} {l : List α} {m : List β} : C a b → All2 C l m → All2 C (a :: l) (b :: m)
section
variable {α : Type} {wg : WG} {wt : WT} {we wk wv : WE'} {wb : WS} {δ0 δ : DEnv}
theorem lc_run {P : List D → Prop} (h g : α → D) : ∀ (l : List α) (acc : List D), (∀ x ∈ l, ∀ Q : R → Prop, Q (.im (g x)) → wg (h x) δ0 fun δ1 => we δ1 Q fun _ => False) → acc.length + l.length ≤ sizeLine → P (acc ++ l.map g) → lcGo wg wtYes we P δ0 (l.map h) acc
  | [], acc, _, _, p => by rw [List.map_nil, List.append_nil] at p; exact p
  | x :: l, acc, st, hz, p => by
    rw [List.length_cons] at hz
    have q := lc_run (P := P) h g l (acc ++ [g x]) (fun y hy => st y (List.mem_cons_of_mem _ hy)) (by rw [List.length_append, List.length_singleton]; omega) (by rw [List.map_cons] at p; rw [List.append_assoc]; exact p)
    exact st x List.mem_cons_self (fun r => ∃ d', r.dat = some d' ∧ acc.length < sizeLine ∧ lcGo wg wtYes we P δ0 (l.map h) (acc ++ [d'])) ⟨g x, rfl, by omega, q⟩
/-- elements that are made of whatever (a draw): what may come -/
theorem lc_any {P : List D → Prop} (h : α → D) (C : α → D → Prop) : ∀ (l : List α) (acc : List D), (∀ x ∈ l, ∀ Q : R → Prop, (∀ v, C x v → Q (.im v)) → wg (h x) δ0 fun δ1 => we δ1 Q fun _ => False) → acc.length + l.length ≤ sizeLine →
    (∀ out : List D, All2 C l out → P (acc ++ out)) → lcGo wg wtYes we P δ0 (l.map h) acc
  | [], acc, _, _, p => by have := p [] .nil; rw [List.append_nil] at this; exact this
  | x :: l, acc, st, hz, p => by
    rw [List.length_cons] at hz
    refine st x List.mem_cons_self (fun r => ∃ d', r.dat = some d' ∧ acc.length < sizeLine ∧ lcGo wg wtYes we P δ0 (l.map h) (acc ++ [d'])) fun v cv => ⟨v, rfl, by omega, ?_⟩
    exact lc_any (P := P) h C l (acc ++ [v]) (fun y hy => st y (List.mem_cons_of_mem _ hy)) (by rw [List.length_append, List.length_singleton]; omega) fun out ho => by rw [List.append_assoc]; exact p (v :: out) (.cons cv ho)
theorem lc_runIf {P : List D → Prop} (h g : α → D) (c : α → Bool) : ∀ (l : List α) (acc : List D), (∀ x ∈ l, ∀ Q : Bool → DEnv → Prop, (∀ δ1 b, b = c x → (∀ S : R → Prop, S (.im (g x)) → we δ1 S fun _ => False) → Q b δ1) → wg (h x) δ0 fun δ1 => wt δ1 (fun b => Q b δ1) fun _ => False) →
    acc.length + l.length ≤ sizeLine → P (acc ++ (l.filter c).map g) → lcGo wg wt we P δ0 (l.map h) acc
  | [], acc, _, _, p => by rw [List.filter_nil, List.map_nil, List.append_nil] at p; exact p
  | x :: l, acc, st, hz, p => by
    rw [List.length_cons] at hz
    refine st x List.mem_cons_self (fun b δ1 => if b = true then we δ1 (fun r => ∃ d', r.dat = some d' ∧ acc.length < sizeLine ∧ lcGo wg wt we P δ0 (l.map h) (acc ++ [d'])) (fun _ => False) else lcGo wg wt we P δ0 (l.map h) acc) fun δ1 b eb hw => ?_
    subst eb
    cases e : c x with
    | true =>
      rw [if_pos rfl]
      refine hw _ ⟨g x, rfl, by omega, ?_⟩
      exact lc_runIf (P := P) h g c l (acc ++ [g x]) (fun y hy => st y (List.mem_cons_of_mem _ hy)) (by rw [List.length_append, List.length_singleton]; omega) (by rw [List.filter_cons, if_pos e, List.map_cons] at p; rw [List.append_assoc]; exact p)
    | false =>
      rw [if_neg Bool.false_ne_true]
      exact lc_runIf (P := P) h g c l acc (fun y hy => st y (List.mem_cons_of_mem _ hy)) (by omega) (by rw [List.filter_cons, if_neg (by rw [e]; exact Bool.false_ne_true)] at p; exact p)
theorem for_run {E : DEnds} (h : α → D) (I : List α → DEnv → Prop) (fin : ∀ l δ, I l δ → E.nx δ → E.nx δ) : ∀ (l pre : List α) (δ : DEnv), I pre δ →
    (∀ pre' x suf δ (N : DEnv → Prop), pre ++ l = pre' ++ x :: suf → I pre' δ → (∀ δ', I (pre' ++ [x]) δ' → N δ') → wg (h x) δ fun δ1 => wb { E with nx := N, ct := N, bk := E.nx } δ1) → (∀ δ, I (pre ++ l) δ → E.nx δ) → forGo wg wb E (l.map h) δ
  | [], pre, δ, i, _, f => by rw [List.append_nil] at f; exact f δ i
  | x :: l, pre, δ, i, st, f => by
    refine st pre x l δ _ rfl i fun δ' i' => ?_
    exact for_run h I fin l (pre ++ [x]) δ' i' (fun pre' y suf δ N e => st pre' y suf δ N (by rw [← e, List.append_assoc]; rfl)) fun δ hδ => f δ (by rw [List.append_assoc] at hδ; exact hδ)
theorem for_all {E : DEnds} (h : α → D) (I : List α → DEnv → Prop) (l : List α) (δ : DEnv) (i : I [] δ) (st : ∀ pre x suf δ (N : DEnv → Prop), l = pre ++ x :: suf → I pre δ → (∀ δ', I (pre ++ [x]) δ' → N δ') → wg (h x) δ fun δ1 => wb { E with nx := N, ct := N, bk := E.nx } δ1)
    (f : ∀ δ, I l δ → E.nx δ) : forGo wg wb E (l.map h) δ := for_run h I (fun _ _ _ h => h) l [] δ i st f
end
/-- the slots, written out -/
theorem env {p : DEnv → Prop} {δ : DEnv} (δ' : DEnv) (e : δ' = δ) (h : p δ') : p δ := e ▸ h
theorem intsD_map {lo : Int} {n : Nat} : intsD lo n = (List.range n).map fun i : Nat => PyData.int (lo + (i : Nat)) := rfl
theorem intsD0 {n : Nat} : intsD 0 n = (List.range n).map fun i : Nat => PyData.int (i : Nat) := by
  unfold intsD
  exact List.map_congr_left fun i _ => by rw [Int.zero_add]
theorem at_nat {α : Type} {xs : List α} {i : Nat} {d : α} (h : xs[i]? = some d) : atI xs (i : Int) = some d := by
  have hl : i < xs.length := (List.getElem?_eq_some_iff.mp h).1
  unfold atI ixN
  rw [if_pos (Int.natCast_nonneg _), if_pos (by omega)]
  exact h
theorem atI_last {α : Type} {xs : List α} {d : α} (h : xs.getLast? = some d) : atI xs (-1) = some d := by
  have hl : 0 < xs.length := by
    cases xs with
    | nil => cases h
    | cons => simp
  unfold atI ixN
  rw [if_neg (by decide), if_pos (by omega)]
  have e : (-1 + (xs.length : Int)).toNat = xs.length - 1 := by omega
  show xs[(-1 + (xs.length : Int)).toNat]? = some d
  rw [e, ← List.getLast?_eq_getElem?]
  exact h
end DW
set_option Elab.async false
set_option linter.all false
set_option maxRecDepth 100000
set_option maxHeartbeats 4000000
namespace DW
open PySem PySem.Spec L2
/-! ### data that can be compared -/
def Sh (k : Nat) (d : D) : Prop := d.canLay0 = true ∧ d.depth ≤ k
theorem Sh.mono {k j : Nat} {d : D} (h : Sh k d) (q : k ≤ j) : Sh j d := ⟨h.1, Nat.le_trans h.2 q⟩
theorem Sh.int (i : Int) : Sh 0 (.int i) := ⟨by simp [PyData.canLay0], by simp [PyData.depth]⟩
theorem Sh.bool (i : Bool) : Sh 0 (.bool i) := ⟨by simp [PyData.canLay0], by simp [PyData.depth]⟩
theorem Sh.non : Sh 0 .none := ⟨by simp [PyData.canLay0], by simp [PyData.depth]⟩
theorem Sh.all {k : Nat} : ∀ {ds : List D}, (∀ d ∈ ds, Sh k d) → PyData.canLayAll0 ds = true ∧ PyData.depthAll ds ≤ k
  | [], _ => ⟨by simp [PyData.canLayAll0], by simp [PyData.depthAll]⟩
  | d :: ds, h => by
    obtain ⟨a, b⟩ := h d List.mem_cons_self
    obtain ⟨a', b'⟩ := Sh.all fun e he => h e (List.mem_cons_of_mem _ he)
    exact ⟨by simp [PyData.canLayAll0, a, a'], by rw [PyData.depthAll]; omega⟩
theorem Sh.tup {k : Nat} {ds : List D} (h : ∀ d ∈ ds, Sh k d) : Sh (k + 1) (.tuple ds) := ⟨by rw [PyData.canLay0]; exact (Sh.all h).1, by rw [PyData.depth]; have := (Sh.all h).2; omega⟩
theorem Sh.lst {k : Nat} {ds : List D} (h : ∀ d ∈ ds, Sh k d) : Sh (k + 1) (.list ds) := ⟨by rw [PyData.canLay0]; exact (Sh.all h).1, by rw [PyData.depth]; have := (Sh.all h).2; omega⟩
theorem Sh.shaped {k : Nat} {d : D} (h : Sh k d) (q : k ≤ 64) : SeqAt.shaped d = true := by
  unfold SeqAt.shaped
  rw [h.1, decide_eq_true (Nat.le_trans h.2 q)]; rfl
theorem eqv_self {k : Nat} {d : D} (h : Sh k d) : PyData.eqv d d = true := SeqAt.eqv_refl d h.1
theorem eqv_ints : ∀ {xs ys : List Int}, PyData.eqvAll (xs.map PyData.int) (ys.map PyData.int) = decide (xs = ys)
  | [], [] => rfl
  | [], _ :: _ => rfl
  | _ :: _, [] => rfl
  | x :: xs, y :: ys => by
    rw [List.map_cons, List.map_cons, PyData.eqvAll, eqv_ints, PyData.eqv]
    by_cases h : x = y
    · subst h; simp
    · simp [h]
end DW
set_option Elab.async false
set_option linter.all false
set_option maxRecDepth 100000
set_option maxHeartbeats 4000000
namespace DW
open PySem PySem.Spec L2
/-! ### a law's def, its end -/
abbrev FnP (K : PySem.W.Frag) (x : Str) (st : Stmt) (f : Addr) (fd : FuncData) : Prop := FunD K x x (defArgs st) (defBody st) (defScope st) [] [] f fd
theorem fun_of {K : PySem.W.Frag} {x : Str} {st : Stmt} {f : Addr} {fd : FuncData} (F : FnP K x st f fd) : L2.Fun K x x st f fd := by
  obtain ⟨oc, od, dV, kV, doc, pm, an, cdv, ct, osl, e, lk, hcd, hD, hK⟩ := F.ex
  rcases hD with ⟨_, rfl⟩ | ⟨z, _⟩
  · exact ⟨⟨oc, od, kV, doc, pm, an, cdv, ct, osl, e, lk, hcd⟩, F.kp⟩
  · exact absurd rfl z
def spLaw (K : PySem.W.Frag) : Sp := fun vs H Q _ => ∃ (a : Addr) (ns : List Int), vs = [.ref a] ∧ SqL K H a (ns.map V.int) ∧ ns.length ≤ 63 ∧ (∀ z ∈ ns, Builtin.Int.intBits z ≤ 1048576) ∧ ∀ H', Q (.bl true) H'
theorem big_bits {z : Int} (h : Builtin.Int.intBits z ≤ 1048576) : Big z := by
  unfold Big
  by_cases e : z.natAbs = 0
  · rw [e]; exact Nat.two_pow_pos _
  · refine (Nat.log2_lt e).mp ?_
    unfold Builtin.Int.intBits at h
    split at h
    · rename_i hz
      have : z = 0 := by simpa using hz
      subst this; exact absurd rfl e
    · omega
/-- what stands behind the first statement: whatever the ground -/
def tRest (K : PySem.W.Frag) (W : WX) (ws : WS) : TS := fun D σ H => ∃ G, dTS K G W ws D σ H
theorem law_tail {X : Cx} {W : WX} {ss : List Stmt} {ws : WS} (h : ∀ G, DSs X G W ss ws) : PSs X ss (tRest X.K W ws) := ⟨fun pins s σ H D I ⟨G, q⟩ => (h G).run pins s σ H D I q⟩
theorem law_start {K : PySem.W.Frag} {W : WX} {ws : WS} {N : List Str} {n : Nat} (hN : N.length = n + 2) (sem : ∀ (P : R → Prop) (PX : DX → Prop), P (.im (.bool true)) → ws (fnEnds P PX) (none :: some .drw :: List.replicate n none))
    {vs : List V} {H : Hp} {Q : VK} {E : XK} (h : spLaw K vs H Q E) : tSeq (tAsg (tCall (spBegin K) [] E0 (tCons (tVar 0) tNil)) (gName 1)) (tRest K W ws) { nx := fun _ H' => Q .non H', rt := Q } (L2.start N vs) H := by
  obtain ⟨a, ns, rfl, hS, hl, hz, hQ⟩ := h
  have hs : L2.start N [V.ref a] = some (.ref a) :: List.replicate (n + 1) none := by
    unfold L2.start
    rw [hN]; rfl
  rw [hs]
  refine ⟨_, rfl, a, ns, rfl, hS, fun H' p q c le hp hq ne e1 e2 c0 c1 => ?_⟩
  let F : Hp := upd (fun _ => none) q (.lst (ns.map V.int))
  have hFp : F p = none := upd_ne ne
  have hFq : F q = some (.lst (ns.map V.int)) := upd_same
  have sub : Sub F H' := fun b o e => by
    by_cases hb : b = q
    · subst hb; rw [hFq] at e; rw [← e]; exact e1
    · have : F b = none := upd_ne hb
      rw [this] at e; cases e
  let d : Dw := ⟨p, q, ns⟩
  have ok : DwOk F H' d := ⟨hFp, ⟨0, 0, c, e2, Int.le_refl _, Nat.two_pow_pos _, c0, c1⟩, hFq, hl, fun z hzm => big_bits (hz z hzm)⟩
  have x : Ext (some d) F H' F H' := Ext.refl sub fun d' e => by cases e; exact ok
  refine ⟨⟨some d, F, H'⟩, F, none :: some .drw :: List.replicate n none, fnEnds (fun r => r = .im (.bool true)) (fun _ => False), ?_, sem _ _ rfl, ?_⟩
  · have b := RepS.bare (K := K) (G := ⟨some d, F, H'⟩) x (some (.ref a) :: List.replicate (n + 1) none)
    have st := b.store (i := 1) (v := .ref p) (s := .drw) ⟨d, rfl, rfl⟩ fun z => nomatch z
    have el : (List.replicate (some (V.ref a) :: List.replicate (n + 1) none).length (none : Option SV)).set 1 (some .drw) = none :: some .drw :: List.replicate n none := by
      rw [List.length_cons, List.length_replicate]; rfl
    rw [el] at st
    exact st
  · refine ⟨fun σ' F' H' δ' _ _ z => (by cases z), fun _ _ _ _ _ _ z => z.elim, fun _ _ _ _ _ _ z => z.elim, fun v F' H' r _ rr z => ?_, fun _ _ _ _ _ _ _ _ z => z.elim⟩
    obtain ⟨_, z⟩ := z
    subst z
    cases rr
    exact hQ H'
end DW
namespace DW
open PySem PySem.Spec PyProof.Rows L2
theorem walk_bits {l : PySem.W.OpenLaw} {n k : Nat} {q : Program} {loose : List Str} {XP : (Str → Option Value) → Heap → Prop} {YP : World → Heap → Prop} {d : DefRec} {CX : World → CXT} {x : Str} (hn : l.most = some n) (hn2 : n ≤ sizeLine) (hdf : d.params.defaults = []) (hr : Room k callerA)
    (F : ∀ (w : World) (mg : Str → Option Value) (fa : Addr) (h : Heap), YP w h → h.Ns mainGlobals mg → mg d.name = some (.ref fa) → ∃ (K : PySem.W.Frag) (fd : FuncData) (sp : Sp), K.In h ∧ (∀ (s : Shared) (u : Value), BindsTo s fd ⟨[u], []⟩ [(x, u)]) ∧
        (∀ (H : Hp) (a : Addr) (ns : List Int), ns.length ≤ n → (∀ z ∈ ns, Builtin.Int.intBits z ≤ 1048576) → SqL K H a (ns.map V.int) → sp [.ref a] H (fun v _ => v = .bl true) fun _ _ _ => False) ∧ ∀ base : Heap, K.In base → base.Ns mainGlobals mg → FnOk l.prog w K mg base (CX w) k fa fd [x] sp)
    (hCX : ∀ (w : World) (H : Hp) (s : Shared) (e : Value) (s' : Shared), CX w [] H s (fun _ _ _ => False) e s' → False) : PySem.W.WalkO q loose XP YP l.row.toRowW d [] (fun f vs => PySem.call f vs) := by
  refine Att.attach_callB hn hdf fun w s₀ s₁ mg mb fa o pm cd doc a vs ns G Y ho hd hcd hmg hobj hints hlen hbits hg => ?_
  obtain ⟨K, fd, sp, KX, hb, hsp, hF⟩ := F w mg fa _ Y G.T.g hmg
  exact law_call KX G.T.g G.T.b G.T.builtins G.T.nolimit hg hobj hints (Nat.le_trans hlen hn2) hr hF hb (fun H _ hS => hsp H a ns hlen hbits hS) fun H e s' => hCX w H s₁ e s'
end DW
set_option Elab.async false
set_option linter.all false
set_option maxRecDepth 100000
set_option maxHeartbeats 4000000
namespace DW
open PySem PySem.Spec L2
/-! ### slices -/
def cutD (xs : List D) (lo hi : Option Int) : List D := (xs.drop (HT.sIx xs.length 0 lo)).take (HT.sIx xs.length xs.length hi - HT.sIx xs.length 0 lo)
abbrev WO := DEnv → (Option Int → Prop) → (DX → Prop) → Prop
def dTO (K : PySem.W.Frag) (G : Gd) (W : WX) (wo : WO) : TO := fun σ H Q => ∃ F δ P PX, RepS K G F H σ δ ∧ wo δ P PX ∧ (∀ o F' H', Ext G.w F H F' H' → P o → Q o H') ∧ xok K G.w W F H σ PX
abbrev DO (X : Cx) (G : Gd) (W : WX) (o : Option Expr) (wo : WO) : Prop := PO X o (dTO X.K G W wo)
def woN : WO := fun _ P _ => P none
def woS (we : WE') : WO := fun δ P PX => we δ (fun r => ∃ i : Int, r = .im (.int i) ∧ P (some i)) PX
def kSlice (r : R) (lo hi : Option Int) (P : R → Prop) : Prop := match r with
  | .im (.str z) => z.length ≤ sizeLine ∧ P (.im (.str (Txt.slice z lo hi)))
  | .im (.tuple xs) => P (.im (.tuple (cutD xs lo hi)))
  | r => ∃ xs, r.lst = some xs ∧ P (.ol (cutD xs lo hi))
def wSlice (we : WE') (wl wh : WO) : WE' := fun δ P PX => we δ (fun r => wl δ (fun lo => wh δ (fun hi => kSlice r lo hi P) PX) PX) PX
section
variable {K : PySem.W.Frag} {w : Option Dw} {G : Gd} {F F1 F2 H H1 H2 : Hp} {σ : L2.St} {δ : DEnv} {X : Cx} {W : WX} {e a b : Expr} {we : WE'} {lo hi : Option Expr} {wl wh : WO} {pos p2 : Pos}
theorem RepL.cut {vs : List V} {ds : List D} (l : RepL K F vs ds) (lo hi : Option Int) : RepL K F (cutV vs lo hi) (cutD ds lo hi) := by
  unfold cutV cutD
  rw [RepL.length l]
  exact RepL.take _ (RepL.drop _ l)
theorem cut_all {α : Type} (xs : List α) {lo hi : Option Int} (h : HT.sIx xs.length 0 lo = 0 ∧ HT.sIx xs.length xs.length hi = xs.length) : (xs.drop (HT.sIx xs.length 0 lo)).take (HT.sIx xs.length xs.length hi - HT.sIx xs.length 0 lo) = xs := by
  rw [h.1, h.2, List.drop_zero, Nat.sub_zero, List.take_length]
theorem do_none : DO X G W none woN := ⟨fun pins s σ H Q I ⟨F, δ, P, PX, S, p, k, xk⟩ => po_none.run pins s σ H Q I (k none F H S.ext.stay p)⟩
theorem do_some (he : DE X G W e we) : DO X G W (some e) (woS we) := ⟨fun pins s σ H Q I ⟨F, δ, P, PX, S, p, k, xk⟩ => (po_some he).run pins s σ H Q I ⟨F, δ, _, PX, S, p, fun v F1 H1 r x1 q1 ⟨i, e, p1⟩ => by
  subst e
  cases q1
  exact ⟨i, rfl, k (some i) F1 H1 x1 p1⟩, xk⟩⟩
theorem de_slice (he : DE X G W e we) (hl : DO X G W lo wl) (hh : DO X G W hi wh) : DE X G W (.Subscript e (.Slice lo hi none p2) pos) (wSlice we wl wh) :=
  PE.imp (pe_slice ((sl_list.or sl_tupA).or C8.sl_txt) he hl hh) fun σ H Q ⟨F, δ, P, PX, S, q, k, xk⟩ => by
    refine ⟨F, δ, _, PX, S, q, fun x F1 H1 r x1 q1 p1 => ?_, xk⟩
    refine ⟨F1, δ, _, PX, S.to x1, p1, fun l F2 H2 x2 p2 => ?_, xk.to x1⟩
    refine ⟨F2, δ, _, PX, (S.to x1).to x2, p2, fun u F3 H3 x3 p3 => ?_, (xk.to x1).to x2⟩
    have x13 := (x1.trans x2).trans x3
    have q3 := (q1.to x2).to x3
    unfold kSlice at p3
    split at p3
    · rename_i z
      cases q3
      exact .inr ⟨z, rfl, p3.1, k _ F3 H3 (.im _) x13 (.str _) p3.2⟩
    · rename_i xs
      obtain ⟨a, vs, rfl, ha, la⟩ := RepR.tuple (K := X.K) (w := G.w) (H := H) x3.le q3 (xs := xs) rfl
      refine .inl (.inr ⟨a, vs, rfl, .inl (.inl (x3.le _ _ ha)), fun hw => ?_, fun _ p hp => ?_⟩)
      · have e1 : cutD xs l u = xs := by
          unfold cutD
          rw [← RepL.length la]
          rw [hw.1, hw.2, List.drop_zero, Nat.sub_zero, RepL.length la, List.take_length]
        rw [e1] at p3
        exact k _ F3 H3 (.im (.tuple xs)) x13 q3 p3
      · obtain ⟨x4, r4⟩ := new_tup (K := X.K) x3.stay hp (RepL.cut la l u)
        exact k _ _ _ _ (x13.trans x4) (r4.back x13) p3
    · obtain ⟨xs, e1, p4⟩ := p3
      obtain ⟨a, vs, rfl, ha, la⟩ := q3.list x3.le e1
      refine .inl (.inl ⟨a, vs, rfl, ha, fun p hp => ?_⟩)
      obtain ⟨x4, r4⟩ := new_list (K := X.K) x3.stay hp (RepL.cut la l u)
      exact k _ _ _ _ (x13.trans x4) (r4.back x13) p4
end
end DW
set_option Elab.async false
set_option linter.all false
set_option maxRecDepth 100000
set_option maxHeartbeats 4000000
namespace DW
open PySem PySem.Spec L2
section
variable {K : PySem.W.Frag} {w : Option Dw} {G : Gd} {F F1 F2 H H1 H2 : Hp} {σ : L2.St} {δ : DEnv} {X : Cx} {W : WX} {e a b : Expr} {we wa wb : WE'} {pos p : Pos}
def kDiv : KO := kIC CDiv fun i j => .int (i / j)
theorem de_fdiv (ha : DE X G W a wa) (hb : DE X G W b wb) : DE X G W (.BinOp a .FloorDiv b pos) (wOp kDiv wa wb) := de_op op_fdiv (opd_IC fun _ _ _ => .int _) ha hb
/-- list(xs) -/
def kListOf : KC := fun rs P => ∃ r xs, rs = [r] ∧ (r.lst = some xs ∨ r.tup = some xs) ∧ P (.ol xs)
theorem callD_listOf : CallD K (fun xs H Q => ∃ p ys, xs = [.ref p] ∧ (SqL K H p ys ∨ SqT K H p ys) ∧ ∀ l, H l = none → Q (.ref l) (upd H l (.lst ys))) kListOf := by
  rintro w H0 F H vs rs P Q x0 q ⟨r, xs, rfl, e, p⟩ k
  cases q with
  | cons a t =>
    cases t
    rcases e with e | e
    · obtain ⟨b, us, rfl, hb, lb⟩ := a.list x0.le e
      refine ⟨b, us, rfl, .inl hb, fun l hl => ?_⟩
      obtain ⟨x1, r1⟩ := new_list (K := K) x0 hl lb
      exact k _ _ _ _ x1 r1 p
    · obtain ⟨b, us, rfl, hb, lb⟩ := a.tuple x0.le e
      refine ⟨b, us, rfl, .inr (.inl (.inl (x0.le _ _ hb))), fun l hl => ?_⟩
      obtain ⟨x1, r1⟩ := new_list (K := K) x0 hl lb
      exact k _ _ _ _ x1 r1 p
def kMin2 : KC := fun rs P => ∃ i j : Int, rs = [.im (.int i), .im (.int j)] ∧ P (.im (.int (if j < i then j else i)))
theorem callD_min2 : CallD K (fun xs H Q => ∃ i j, xs = [.int i, .int j] ∧ Q (.int (if j < i then j else i)) H) kMin2 := by
  rintro w H0 F H vs rs P Q x0 q ⟨i, j, rfl, p⟩ k
  cases q with
  | cons a t =>
    cases t with
    | cons b u => cases u; cases a; cases b; exact ⟨i, j, rfl, k _ F H (.im _) x0 (.int _) p⟩
def kSum : KC := fun rs P => ∃ (r : R) (ns : List Int), rs = [r] ∧ r.lst = some (ns.map PyData.int) ∧ P (.im (.int ns.sum))
theorem callD_sum : CallD K (rSum K) kSum := by
  rintro w H0 F H vs rs P Q x0 q ⟨r, ns, rfl, e, p⟩ k
  cases q with
  | cons a t =>
    cases t
    obtain ⟨b, us, rfl, hb, lb⟩ := a.list x0.le e
    rw [RepL.isInts lb] at hb
    exact ⟨b, ns, rfl, hb, k _ F H (.im _) x0 (.int _) p⟩
def kMinL : KC := fun rs P => ∃ (r : R) (ns : List Int), rs = [r] ∧ r.lst = some (ns.map PyData.int) ∧ 0 < ns.length ∧ ∀ m, m ∈ ns → (∀ y, y ∈ ns → m ≤ y) → P (.im (.int m))
theorem callD_minL : CallD K (rMin K) kMinL := by
  rintro w H0 F H vs rs P Q x0 q ⟨r, ns, rfl, e, hn, p⟩ k
  cases q with
  | cons a t =>
    cases t
    obtain ⟨b, us, rfl, hb, lb⟩ := a.list x0.le e
    rw [RepL.isInts lb] at hb
    exact ⟨b, ns, rfl, hb, hn, fun m h1 h2 => k _ F H (.im _) x0 (.int _) (p m h1 h2)⟩
def kAbs : KC := fun rs P => ∃ i : Int, rs = [.im (.int i)] ∧ P (.im (.int (if i < 0 then -i else i)))
theorem callD_abs : CallD K (fun xs H Q => ∃ i, xs = [.int i] ∧ Q (.int (if i < 0 then -i else i)) H) kAbs := by
  rintro w H0 F H vs rs P Q x0 q ⟨i, rfl, p⟩ k
  cases q with
  | cons a t => cases t; cases a; exact ⟨i, rfl, k _ F H (.im _) x0 (.int _) p⟩
def kSortI : KC := fun rs P => ∃ (r : R) (ns : List Int), rs = [r] ∧ r.lst = some (ns.map PyData.int) ∧ ∀ ns' : List Int, ns'.Perm ns → ns'.Pairwise (· ≤ ·) → P (.ol (ns'.map PyData.int))
theorem callD_sortI : CallD K (rSortedI K) kSortI := by
  rintro w H0 F H vs rs P Q x0 q ⟨r, ns, rfl, e, p⟩ k
  cases q with
  | cons a t =>
    cases t
    obtain ⟨b, us, rfl, hb, lb⟩ := a.list x0.le e
    rw [RepL.isInts lb] at hb
    refine ⟨b, ns, rfl, hb, fun ns' l h1 h2 hl => ?_⟩
    obtain ⟨x1, r1⟩ := new_list (K := K) x0 hl (RepL.ints ns')
    exact k _ _ _ _ x1 r1 (p ns' h1 h2)
theorem RepL.strs : ∀ (ns : List Str), RepL K F (ns.map V.str) (ns.map PyData.str)
  | [] => .nil
  | n :: r => .cons (.str n) (RepL.strs r)
def kSortS : KC := fun rs P => ∃ (r : R) (ns : List Str), rs = [r] ∧ r.lst = some (ns.map PyData.str) ∧ ns.length < 64 ∧ ∀ ns' : List Str, ns'.Perm ns → PyProof.Rows.sortedS ns' = true → P (.ol (ns'.map PyData.str))
theorem callD_sortS : CallD K (rSortedS K) kSortS := by
  rintro w H0 F H vs rs P Q x0 q ⟨r, ns, rfl, e, hz, p⟩ k
  cases q with
  | cons a t =>
    cases t
    obtain ⟨b, us, rfl, hb, lb⟩ := a.list x0.le e
    rw [RepL.isStrs lb] at hb
    refine ⟨b, ns, rfl, hb, hz, fun ns' l h1 h2 hl => ?_⟩
    obtain ⟨x1, r1⟩ := new_list (K := K) x0 hl (RepL.strs ns')
    exact k _ _ _ _ x1 r1 (p ns' h1 h2)
end
end DW
set_option Elab.async false
set_option linter.all false
set_option maxRecDepth 100000
set_option maxHeartbeats 4000000
/-! FW: what a def over data computes, as a function (a tree of draws); the wishes of DW are met by it. -/
namespace FW
open PySem PySem.Spec L2 DW
/-- an exception: its class's name, its fields -/
structure Xn where
  nm : Str
  fs : List (Str × D)
def toX (K : PySem.W.Frag) (x : Xn) : DX := ⟨He.ga K x.nm, x.fs⟩
inductive Tr (α : Type) where
  | ok (a : α) | ex (x : Xn) | no | draw (m : Int) (k : Int → Tr α)
section
variable {α β γ : Type}
def Tr.bind : Tr α → (α → Tr β) → Tr β
  | .ok a, f => f a
  | .ex x, _ => .ex x
  | .no, _ => .no
  | .draw m k, f => .draw m fun r => (k r).bind f
def Tr.sat : Tr α → (α → Prop) → (Xn → Prop) → Prop
  | .ok a, P, _ => P a
  | .ex x, _, PX => PX x
  | .no, _, _ => False
  | .draw m k, P, PX => 1 ≤ m ∧ m < 1073741824 ∧ ∀ r, 0 ≤ r → r < m → (k r).sat P PX
theorem Tr.sat_ok {a : α} {P : α → Prop} {PX : Xn → Prop} : (Tr.ok a).sat P PX ↔ P a := Iff.rfl
theorem Tr.sat_ex {x : Xn} {P : α → Prop} {PX : Xn → Prop} : (Tr.ex x : Tr α).sat P PX ↔ PX x := Iff.rfl
theorem Tr.bind_ok {a : α} {f : α → Tr β} : (Tr.ok a).bind f = f a := rfl
theorem Tr.bind_ex {x : Xn} {f : α → Tr β} : (Tr.ex x : Tr α).bind f = .ex x := rfl
theorem Tr.bind_no {f : α → Tr β} : (Tr.no : Tr α).bind f = .no := rfl
theorem Tr.sat_bind {t : Tr α} {f : α → Tr β} {P : β → Prop} {PX : Xn → Prop} : (t.bind f).sat P PX ↔ t.sat (fun a => (f a).sat P PX) PX := by
  induction t with
  | ok a => exact Iff.rfl
  | ex x => exact Iff.rfl
  | no => exact Iff.rfl
  | draw m k ih => exact ⟨fun ⟨h1, h2, h⟩ => ⟨h1, h2, fun r r0 r1 => (ih r).mp (h r r0 r1)⟩, fun ⟨h1, h2, h⟩ => ⟨h1, h2, fun r r0 r1 => (ih r).mpr (h r r0 r1)⟩⟩
theorem Tr.sat_mono {t : Tr α} {P P' : α → Prop} {PX PX' : Xn → Prop} (h : t.sat P PX) (i : ∀ a, P a → P' a) (j : ∀ x, PX x → PX' x) : t.sat P' PX' := by
  induction t with
  | ok a => exact i a h
  | ex x => exact j x h
  | no => exact h
  | draw m k ih => exact ⟨h.1, h.2.1, fun r r0 r1 => ih r (h.2.2 r r0 r1)⟩
theorem Tr.sat_of {t : Tr α} {P P' : α → Prop} {PX : Xn → Prop} (h : t.sat P PX) (i : ∀ a, P a → P' a) : t.sat P' PX := Tr.sat_mono h i fun _ x => x
theorem Tr.bind_assoc {t : Tr α} {f : α → Tr β} {g : β → Tr γ} : (t.bind f).bind g = t.bind fun a => (f a).bind g := by
  induction t with
  | ok a => rfl
  | ex x => rfl
  | no => rfl
  | draw m k ih => exact congrArg (Tr.draw m) (funext fun r => ih r)
/-- t if c, else nothing is told -/
def gd (c : Bool) (t : Tr α) : Tr α := match c with
  | true => t
  | false => .no
theorem gd_sat {c : Bool} {t : Tr α} {P : α → Prop} {PX : Xn → Prop} (h : (gd c t).sat P PX) : c = true ∧ t.sat P PX := by
  cases c with
  | true => exact ⟨rfl, h⟩
  | false => exact h.elim
theorem gd_true {c : Bool} {t : Tr α} (h : c = true) : gd c t = t := by rw [h]; rfl
def ofO : Option α → Tr α
  | some a => .ok a
  | none => .no
theorem ofO_sat {o : Option α} {P : α → Prop} {PX : Xn → Prop} (h : (ofO o).sat P PX) : ∃ a, o = some a ∧ P a := by
  cases o with
  | some a => exact ⟨a, rfl, h⟩
  | none => exact h.elim
/-- no exception, no draw -/
def Tr.calm : Tr α → Prop
  | .ok _ => True
  | .no => True
  | _ => False
end
abbrev FE := DEnv → Tr R
abbrev FT := DEnv → Tr Bool
abbrev FA := DEnv → Tr (List R)
abbrev FI := DEnv → Tr (List D)
abbrev FG := D → DEnv → Tr DEnv
abbrev FGs := List D → DEnv → Tr DEnv
def wE (K : PySem.W.Frag) (f : FE) : WE' := fun δ P PX => (f δ).sat P fun x => PX (toX K x)
def wT (K : PySem.W.Frag) (f : FT) : WT := fun δ P PX => (f δ).sat P fun x => PX (toX K x)
def wA (K : PySem.W.Frag) (f : FA) : WA := fun δ P PX => (f δ).sat P fun x => PX (toX K x)
def wI (K : PySem.W.Frag) (f : FI) : WI := fun δ P PX => (f δ).sat P fun x => PX (toX K x)
def wG (f : FG) : WG := fun d δ P => (f d δ).sat P fun _ => False
def wGs (f : FGs) : WGs := fun d δ P => (f d δ).sat P fun _ => False
section
variable {X : Cx} {G : Gd} {W : WX} {st : Bool} {tg e a b c : Expr} {es rest : List Expr} {we we' : WE'} {wt wt' : WT} {wa wa' : WA} {wi wi' : WI} {ts : List Nat} {wg wg' : WG} {wgs wgs' : WGs} {pos : Pos}
theorem DE.imp (h : DE X G W e we) (i : ∀ δ P PX, we' δ P PX → we δ P PX) : DE X G W e we' := PE.imp h fun σ H Q ⟨F, δ, P, PX, S, p, k, xk⟩ => ⟨F, δ, P, PX, S, i _ _ _ p, k, xk⟩
theorem DT.imp (h : DT X G W e wt) (i : ∀ δ P PX, wt' δ P PX → wt δ P PX) : DT X G W e wt' := PT.imp h fun σ H Q ⟨F, δ, P, PX, S, p, k, xk⟩ => ⟨F, δ, P, PX, S, i _ _ _ p, k, xk⟩
theorem DWw.imp (h : DW_ X G W e wt) (i : ∀ δ P PX, wt' δ P PX → wt δ P PX) : DW_ X G W e wt' := PW.imp h fun σ H Q ⟨F, δ, P, PX, S, p, k, xk⟩ => ⟨F, δ, P, PX, S, i _ _ _ p, k, xk⟩
theorem DA.imp (h : DA X G W es wa) (i : ∀ δ P PX, wa' δ P PX → wa δ P PX) : DA X G W es wa' := PA.imp h fun σ H Q ⟨F, δ, P, PX, S, p, k, xk⟩ => ⟨F, δ, P, PX, S, i _ _ _ p, k, xk⟩
theorem DI.imp (h : DI X G W st tg e wi) (i : ∀ δ P PX, wi' δ P PX → wi δ P PX) : DI X G W st tg e wi' := PI.imp h fun σ H Q ⟨F, δ, P, PX, S, p, k, xk⟩ => ⟨F, δ, P, PX, S, i _ _ _ p, k, xk⟩
theorem DG.imp (h : DG X G ts e wg) (i : ∀ d δ P, wg' d δ P → wg d δ P) : DG X G ts e wg' := PG.imp h fun v σ H Q ⟨F, δ, d, P, S, r, p, k⟩ => ⟨F, δ, d, P, S, r, i _ _ _ p, k⟩
theorem DGs.imp (h : DGs X G ts es wgs) (i : ∀ d δ P, wgs' d δ P → wgs d δ P) : DGs X G ts es wgs' := PGs.imp h fun v σ H Q ⟨F, δ, d, P, S, r, p, k⟩ => ⟨F, δ, d, P, S, r, i _ _ _ p, k⟩
end
def slotD (δ : DEnv) (i : Nat) : Option SV := match δ[i]? with
  | some (some s) => some s
  | _ => none
theorem slotD_eq {δ : DEnv} {i : Nat} {s : SV} (h : slotD δ i = some s) : δ[i]? = some (some s) := by
  unfold slotD at h
  split at h
  · rename_i s' e
    rw [e, Option.some.inj h]
  · cases h

/-! ### the functions -/
def fV (i : Nat) : FE := fun δ => match slotD δ i with
  | some s => .ok s.read
  | none => .no
def fC (d : D) : FE := fun _ => .ok (.im d)
abbrev G2 := R → R → Tr R
def fOp (g : G2) (fa fb : FE) : FE := fun δ => (fa δ).bind fun x => (fb δ).bind fun y => g x y
/-- g is good for k -/
def KG (k : KO) (g : G2) : Prop := ∀ a b P PX, (g a b).sat P PX → k a b P
def szOk (n : Nat) : Bool := decide (n ≤ 16777216)
theorem szOk_ok {n : Nat} (h : szOk n = true) : n ≤ sizeLine := by rw [sizeLine_eq]; exact of_decide_eq_true h
def gI (f : Int → Int → D) : G2 := fun x y => match x, y with
  | .im (.int i), .im (.int j) => .ok (.im (f i j))
  | _, _ => .no
def gIC (C : Int → Int → Bool) (f : Int → Int → D) : G2 := fun x y => match x, y with
  | .im (.int i), .im (.int j) => gd (C i j) (.ok (.im (f i j)))
  | _, _ => .no
theorem kg_I {f : Int → Int → D} : KG (kI f) (gI f) := by
  intro a b P PX h
  unfold gI at h
  split at h
  · exact ⟨_, _, rfl, rfl, h⟩
  · exact h.elim
theorem kg_IC {C : Int → Int → Prop} {c : Int → Int → Bool} {f : Int → Int → D} (hc : ∀ i j, c i j = true → C i j) : KG (kIC C f) (gIC c f) := by
  intro a b P PX h
  unfold gIC at h
  split at h
  · obtain ⟨h1, h2⟩ := gd_sat h
    exact ⟨_, _, rfl, rfl, hc _ _ h1, h2⟩
  · exact h.elim
def gAdd : G2 := fun x y => match x, y with
  | .im (.int i), .im (.int j) => .ok (.im (.int (i + j)))
  | .im (.str a), .im (.str b) => gd (szOk (a.length + b.length)) (.ok (.im (.str (a ++ b))))
  | .im (.tuple xs), .im (.tuple ys) => gd (szOk (xs.length + ys.length)) (.ok (.im (.tuple (xs ++ ys))))
  | x, y => match x.own, y.own with
    | some xs, some ys => gd (szOk (xs.length + ys.length)) (.ok (.ol (xs ++ ys)))
    | _, _ => .no
theorem kg_add : KG kAdd gAdd := by
  intro a b P PX h
  unfold gAdd at h
  split at h
  · exact h
  · obtain ⟨h1, h2⟩ := gd_sat h
    exact ⟨szOk_ok h1, h2⟩
  · obtain ⟨h1, h2⟩ := gd_sat h
    exact ⟨szOk_ok h1, h2⟩
  · rename_i h1 h2 h3
    unfold kAdd
    split at h
    · rename_i xs ys e1 e2
      obtain ⟨h5, h6⟩ := gd_sat h
      split
      · cases e1
      · cases e1
      · cases e1
      · exact ⟨xs, ys, e1, e2, szOk_ok h5, h6⟩
    · exact h.elim
def gSub : G2 := gI fun i j => .int (i - j)
def gLt : G2 := gI fun i j => .bool (decide (i < j))
def gLe : G2 := gI fun i j => .bool (decide (i ≤ j))
def gGt : G2 := gI fun i j => .bool (decide (j < i))
def gGe : G2 := gI fun i j => .bool (decide (j ≤ i))
def gMod : G2 := gIC (fun _ j => decide (0 < j)) fun i j => .int (i % j)
def mulOk (i j : Int) : Bool := (decide (-1073741824 ≤ i) && decide (i ≤ 1073741824)) || (decide (-1073741824 ≤ j) && decide (j ≤ 1073741824))
def gMul : G2 := gIC mulOk fun i j => .int (i * j)
def divOk (j : Int) : Bool := decide (1 ≤ j) && decide (j < 1073741824)
def gDiv : G2 := gIC (fun _ j => divOk j) fun i j => .int (i / j)
def shp (d : D) : Bool := SeqAt.shaped d
def gEq : G2 := fun x y => match x.datA, y.datA with
  | some d, some e => gd (shp d && shp e) (.ok (.im (.bool (PyData.eqv d e))))
  | _, _ => .no
def gNe : G2 := fun x y => match x.datA, y.datA with
  | some d, some e => gd (shp d && shp e) (.ok (.im (.bool (!PyData.eqv d e))))
  | _, _ => .no
theorem kg_eq : KG kEq gEq := by
  intro a b P PX h
  unfold gEq at h
  split at h
  · rename_i d e e1 e2
    obtain ⟨h1, h2⟩ := gd_sat h
    rw [Bool.and_eq_true] at h1
    exact ⟨d, e, e1, e2, h1.1, h1.2, h2⟩
  · exact h.elim
theorem kg_ne : KG kNe gNe := by
  intro a b P PX h
  unfold gNe at h
  split at h
  · rename_i d e e1 e2
    obtain ⟨h1, h2⟩ := gd_sat h
    rw [Bool.and_eq_true] at h1
    exact ⟨d, e, e1, e2, h1.1, h1.2, h2⟩
  · exact h.elim
def isNon : D → Bool
  | .none => true
  | _ => false
def gIsN (neg : Bool) : G2 := fun x y => match x, y with
  | .im d, .im .none => .ok (.im (.bool (if neg then !isNon d else isNon d)))
  | _, _ => .no
theorem kg_isN : KG kIsN (gIsN false) := by
  intro a b P PX h
  unfold gIsN at h
  split at h
  · rename_i d
    refine ⟨d, rfl, rfl, ?_⟩
    cases d <;> exact h
  · exact h.elim
theorem kg_notN : KG kNotN (gIsN true) := by
  intro a b P PX h
  unfold gIsN at h
  split at h
  · rename_i d
    refine ⟨d, rfl, rfl, ?_⟩
    cases d <;> exact h
  · exact h.elim
def gInL (neg : Bool) : G2 := fun x y => match x.datA, y.lst with
  | some d, some ds => gd (shp d && shp (.list ds)) (.ok (.im (.bool (if neg then !inD d ds else inD d ds))))
  | _, _ => .no
theorem kg_inL {neg : Bool} : KG (kInL neg) (gInL neg) := by
  intro a b P PX h
  unfold gInL at h
  split at h
  · rename_i d ds e1 e2
    obtain ⟨h1, h2⟩ := gd_sat h
    rw [Bool.and_eq_true] at h1
    exact ⟨d, ds, e1, e2, h1.1, h1.2, h2⟩
  · exact h.elim
def intsOf : List D → Option (List Int)
  | [] => some []
  | .int i :: r => (intsOf r).map (i :: ·)
  | _ => none
theorem intsOf_eq : ∀ {ds : List D} {ns : List Int}, intsOf ds = some ns → ds = ns.map PyData.int
  | [], _, h => by cases h; rfl
  | d :: r, ns, h => by
    cases d with
    | int i =>
      unfold intsOf at h
      cases e : intsOf r with
      | none => rw [e] at h; cases h
      | some ms => rw [e] at h; cases h; rw [intsOf_eq e]; rfl
    | _ => cases h
theorem intsOf_map : ∀ (ns : List Int), intsOf (ns.map PyData.int) = some ns
  | [] => rfl
  | n :: r => by show (intsOf (r.map PyData.int)).map (n :: ·) = _; rw [intsOf_map r]; rfl
def strsOf : List D → Option (List Str)
  | [] => some []
  | .str i :: r => (strsOf r).map (i :: ·)
  | _ => none
theorem strsOf_eq : ∀ {ds : List D} {ns : List Str}, strsOf ds = some ns → ds = ns.map PyData.str
  | [], _, h => by cases h; rfl
  | d :: r, ns, h => by
    cases d with
    | str i =>
      unfold strsOf at h
      cases e : strsOf r with
      | none => rw [e] at h; cases h
      | some ms => rw [e] at h; cases h; rw [strsOf_eq e]; rfl
    | _ => cases h
theorem strsOf_map : ∀ (ns : List Str), strsOf (ns.map PyData.str) = some ns
  | [] => rfl
  | n :: r => by show (strsOf (r.map PyData.str)).map (n :: ·) = _; rw [strsOf_map r]; rfl
def boolsOf : List D → Option (List Bool)
  | [] => some []
  | .bool i :: r => (boolsOf r).map (i :: ·)
  | _ => none
theorem boolsOf_eq : ∀ {ds : List D} {ns : List Bool}, boolsOf ds = some ns → ds = ns.map PyData.bool
  | [], _, h => by cases h; rfl
  | d :: r, ns, h => by
    cases d with
    | bool i =>
      unfold boolsOf at h
      cases e : boolsOf r with
      | none => rw [e] at h; cases h
      | some ms => rw [e] at h; cases h; rw [boolsOf_eq e]; rfl
    | _ => cases h
theorem boolsOf_map : ∀ (ns : List Bool), boolsOf (ns.map PyData.bool) = some ns
  | [] => rfl
  | n :: r => by show (boolsOf (r.map PyData.bool)).map (n :: ·) = _; rw [boolsOf_map r]; rfl
def gInT (neg : Bool) : G2 := fun x y => match x, y with
  | .im (.int i), .im (.tuple ds) => (ofO (intsOf ds)).bind fun ns => .ok (.im (.bool (if neg then !decide (i ∈ ns) else decide (i ∈ ns))))
  | _, _ => .no
theorem kg_inT {neg : Bool} : KG (kInT neg) (gInT neg) := by
  intro a b P PX h
  unfold gInT at h
  split at h
  · obtain ⟨ns, e, p⟩ := ofO_sat (Tr.sat_bind.mp h)
    exact ⟨_, ns, rfl, by rw [intsOf_eq e], p⟩
  · exact h.elim
def sign1 (s : Str) : Option Nat := match s.cps.toList with
  | [c] => some c
  | _ => none
theorem sign1_eq {s : Str} {c : Nat} (h : sign1 s = some c) : s = ⟨#[c]⟩ := by
  obtain ⟨⟨l⟩⟩ := s
  unfold sign1 at h
  split at h
  · rename_i e
    have e' : l = [_] := e
    cases h
    rw [e']
  · cases h
def gInS (neg : Bool) : G2 := fun x y => match x, y with
  | .im (.str s), .im (.str z) => (ofO (sign1 s)).bind fun c => .ok (.im (.bool (if neg then !decide (c ∈ z.cps.toList) else decide (c ∈ z.cps.toList))))
  | _, _ => .no
theorem kg_inS {neg : Bool} : KG (kInS neg) (gInS neg) := by
  intro a b P PX h
  unfold gInS at h
  split at h
  · obtain ⟨c, e, p⟩ := ofO_sat (Tr.sat_bind.mp h)
    exact ⟨c, _, by rw [sign1_eq e], rfl, p⟩
  · exact h.elim
def gIx : G2 := fun x y => match x, y with
  | .im (.str s), .im (.int i) => gd (szOk s.length) ((ofO (atI s.cps.toList i)).bind fun c => .ok (.im (.str ⟨#[c]⟩)))
  | .im (.tuple xs), .im (.int i) => (ofO (atI xs i)).bind fun d => .ok (.im d)
  | x, .im (.int i) => match x.lst with
    | some xs => (ofO (atI xs i)).bind fun d => .ok (.im d)
    | none => .no
  | _, _ => .no
theorem kg_ix : KG kIx gIx := by
  intro a b P PX h
  unfold gIx at h
  split at h
  · obtain ⟨h1, h2⟩ := gd_sat h
    obtain ⟨c, e, p⟩ := ofO_sat (Tr.sat_bind.mp h2)
    exact ⟨szOk_ok h1, c, e, p⟩
  · obtain ⟨c, e, p⟩ := ofO_sat (Tr.sat_bind.mp h)
    exact ⟨c, e, p⟩
  · rename_i i h1 h2
    split at h
    · rename_i xs ex
      obtain ⟨c, e, p⟩ := ofO_sat (Tr.sat_bind.mp h)
      cases a with
      | im d => cases d with
        | list ys => exact ⟨xs, c, ex, e, p⟩
        | _ => cases ex
      | ol ys => exact ⟨xs, c, ex, e, p⟩
      | bl ys => exact ⟨xs, c, ex, e, p⟩
      | _ => cases ex
    · exact h.elim
  · exact h.elim
def gMulS : G2 := fun x y => match x, y with
  | .im (.str s), .im (.int n) => gd (decide (0 ≤ n) && decide (n ≤ 1000) && decide (s.length ≤ 1000)) (.ok (.im (.str (repS s n))))
  | _, _ => .no
theorem kg_mulS : KG kMulS gMulS := by
  intro a b P PX h
  unfold gMulS at h
  split at h
  · obtain ⟨h1, h2⟩ := gd_sat h
    rw [Bool.and_eq_true, Bool.and_eq_true] at h1
    exact ⟨_, _, rfl, rfl, of_decide_eq_true h1.1.1, of_decide_eq_true h1.1.2, of_decide_eq_true h1.2, h2⟩
  · exact h.elim
/-- what a dict holds at a key (none: nothing is told) -/
def getO (x y : R) : Option (Option D) := match x.dK, x.dT, y with
  | some kvs, _, .im d => (DW.keyOf d).map (valD kvs)
  | none, some kvs, .im (.tuple ds) => (DW.keysOf ds).map (valD kvs)
  | _, _, _ => none
theorem getO_ok {x y : R} {o : Option D} (h : getO x y = some o) : dGet x y o := by
  unfold getO at h
  split at h
  · rename_i kvs d e1
    cases ek : DW.keyOf d with
    | none => rw [ek] at h; cases h
    | some k => rw [ek] at h; exact .inl ⟨kvs, d, k, e1, rfl, ek, (Option.some.inj h).symm⟩
  · rename_i kvs ds e0 e2
    cases ek : DW.keysOf ds with
    | none => rw [ek] at h; cases h
    | some k => rw [ek] at h; exact .inr ⟨kvs, ds, k, e2, rfl, ek, (Option.some.inj h).symm⟩
  · cases h
def gDget : G2 := fun x y => match getO x y with
  | some (some d) => .ok (.im d)
  | _ => .no
def gDin (neg : Bool) : G2 := fun x y => match getO y x with
  | some o => .ok (.im (.bool (if neg then !o.isSome else o.isSome)))
  | _ => .no
/-! ### argument lists -/
def aNil : FA := fun _ => .ok []
def aCons (f : FE) (fa : FA) : FA := fun δ => (f δ).bind fun r => (fa δ).bind fun rs => .ok (r :: rs)
def aFCons (f : FE) (fa : FA) : FA := fun δ => (f δ).bind fun r => match r.frz with
  | some r' => (fa δ).bind fun rs => .ok (r' :: rs)
  | none => .no
def fTup (fa : FA) : FE := fun δ => (fa δ).bind fun rs => match dats rs with
  | some ds => gd (szOk ds.length) (.ok (.im (.tuple ds)))
  | none => .no
def fLst (fa : FA) : FE := fun δ => (fa δ).bind fun rs => match dats rs with
  | some ds => gd (szOk ds.length) (.ok (.ol ds))
  | none => .no
abbrev G1 := List R → Tr R
def fCall (g : G1) (fa : FA) : FE := fun δ => (fa δ).bind g
def KCG (k : KC) (g : G1) : Prop := ∀ rs P PX, (g rs).sat P PX → k rs P
def gLen : G1 := fun rs => match rs with
  | [.im (.str s)] => gd (szOk s.length) (.ok (.im (.int s.length)))
  | [.im (.tuple xs)] => .ok (.im (.int xs.length))
  | [.im (.list xs)] => .ok (.im (.int xs.length))
  | [.ol xs] => .ok (.im (.int xs.length))
  | [.bl xs] => .ok (.im (.int xs.length))
  | _ => .no
theorem kcg_len : KCG kLen gLen := by
  intro rs P PX h
  unfold gLen at h
  unfold kLen
  split at h
  · obtain ⟨h1, h2⟩ := gd_sat h
    exact ⟨szOk_ok h1, h2⟩
  · exact h
  · exact h
  · exact h
  · exact h
  · exact h.elim
def gLenK : G1 := fun rs => match rs with
  | [r] => match r.dK with
    | some kvs => .ok (.im (.int (kvs.length : Nat)))
    | none => .no
  | _ => .no
def gLenT : G1 := fun rs => match rs with
  | [r] => match r.dT with
    | some kvs => .ok (.im (.int (kvs.length : Nat)))
    | none => .no
  | _ => .no
theorem kcg_lenK : KCG kLenK gLenK := by
  intro rs P PX h
  unfold gLenK at h
  split at h
  · rename_i r
    split at h
    · rename_i kvs e
      exact ⟨r, kvs, rfl, e, h⟩
    · exact h.elim
  · exact h.elim
theorem kcg_lenT : KCG kLenT gLenT := by
  intro rs P PX h
  unfold gLenT at h
  split at h
  · rename_i r
    split at h
    · rename_i kvs e
      exact ⟨r, kvs, rfl, e, h⟩
    · exact h.elim
  · exact h.elim
def gTupOf : G1 := fun rs => match rs with
  | [.im (.tuple xs)] => .ok (.im (.tuple xs))
  | [r] => match r.lst with
    | some xs => .ok (.im (.tuple xs))
    | none => .no
  | _ => .no
theorem kcg_tupOf : KCG kTupOf gTupOf := by
  intro rs P PX h
  unfold gTupOf at h
  unfold kTupOf
  split at h
  · exact h
  · rename_i r hne
    split at h
    · rename_i xs e
      first
        | exact ⟨xs, e, h⟩
        | (split
           · rename_i q; injection q with q1 _; subst q1; cases e
           · rename_i q; injection q with q1 _; subst q1; exact ⟨xs, e, h⟩
           · rename_i q; exact absurd rfl (q r))
    · exact h.elim
  · exact h.elim
def gListOf : G1 := fun rs => match rs with
  | [r] => match r.lst, r.tup with
    | some xs, _ => .ok (.ol xs)
    | none, some xs => .ok (.ol xs)
    | _, _ => .no
  | _ => .no
theorem kcg_listOf : KCG kListOf gListOf := by
  intro rs P PX h
  unfold gListOf at h
  split at h
  · rename_i r
    split at h
    · rename_i xs e1; exact ⟨r, xs, rfl, .inl e1, h⟩
    · rename_i xs e1 e2; exact ⟨r, xs, rfl, .inr e2, h⟩
    · exact h.elim
  · exact h.elim
def gAny : G1 := fun rs => match rs with
  | [r] => match r.lst with
    | some xs => (ofO (boolsOf xs)).bind fun bs => .ok (.im (.bool (bs.any id)))
    | none => .no
  | _ => .no
def gAll : G1 := fun rs => match rs with
  | [r] => match r.lst with
    | some xs => (ofO (boolsOf xs)).bind fun bs => .ok (.im (.bool (bs.all id)))
    | none => .no
  | _ => .no
theorem kcg_any : KCG kAny gAny := by
  intro rs P PX h
  unfold gAny at h
  split at h
  · rename_i r
    split at h
    · rename_i xs e
      obtain ⟨bs, eb, p⟩ := ofO_sat (Tr.sat_bind.mp h)
      exact ⟨r, bs, rfl, by rw [e, boolsOf_eq eb], p⟩
    · exact h.elim
  · exact h.elim
theorem kcg_all : KCG kAll gAll := by
  intro rs P PX h
  unfold gAll at h
  split at h
  · rename_i r
    split at h
    · rename_i xs e
      obtain ⟨bs, eb, p⟩ := ofO_sat (Tr.sat_bind.mp h)
      exact ⟨r, bs, rfl, by rw [e, boolsOf_eq eb], p⟩
    · exact h.elim
  · exact h.elim
def gMax2 : G1 := fun rs => match rs with
  | [.im (.int i), .im (.int j)] => .ok (.im (.int (if j > i then j else i)))
  | _ => .no
def gMin2 : G1 := fun rs => match rs with
  | [.im (.int i), .im (.int j)] => .ok (.im (.int (if j < i then j else i)))
  | _ => .no
theorem kcg_max2 : KCG kMax2 gMax2 := by
  intro rs P PX h
  unfold gMax2 at h
  split at h
  · exact ⟨_, _, rfl, h⟩
  · exact h.elim
theorem kcg_min2 : KCG kMin2 gMin2 := by
  intro rs P PX h
  unfold gMin2 at h
  split at h
  · exact ⟨_, _, rfl, h⟩
  · exact h.elim
def maxI : Int → List Int → Int
  | m, [] => m
  | m, x :: r => maxI (if x > m then x else m) r
def minI : Int → List Int → Int
  | m, [] => m
  | m, x :: r => minI (if x < m then x else m) r
theorem maxI_le : ∀ (l : List Int) (m : Int), m ≤ maxI m l ∧ ∀ y ∈ l, y ≤ maxI m l
  | [], m => ⟨Int.le_refl _, fun _ h => nomatch h⟩
  | x :: r, m => by
    obtain ⟨h1, h2⟩ := maxI_le r (if x > m then x else m)
    have h3 : m ≤ (if x > m then x else m) ∧ x ≤ (if x > m then x else m) := by split <;> omega
    exact ⟨Int.le_trans h3.1 h1, fun y hy => (List.mem_cons.mp hy).elim (fun e => by rw [e]; exact Int.le_trans h3.2 h1) (h2 y)⟩
theorem maxI_mem : ∀ (l : List Int) (m : Int), maxI m l = m ∨ maxI m l ∈ l
  | [], m => .inl rfl
  | x :: r, m => by
    show maxI (if x > m then x else m) r = m ∨ _
    rcases maxI_mem r (if x > m then x else m) with h | h
    · by_cases hx : x > m
      · rw [if_pos hx] at h
        exact .inr (by show maxI (if x > m then x else m) r ∈ _; rw [if_pos hx, h]; exact List.mem_cons_self)
      · rw [if_neg hx] at h ⊢
        exact .inl h
    · exact .inr (List.mem_cons_of_mem _ h)
theorem minI_le : ∀ (l : List Int) (m : Int), minI m l ≤ m ∧ ∀ y ∈ l, minI m l ≤ y
  | [], m => ⟨Int.le_refl _, fun _ h => nomatch h⟩
  | x :: r, m => by
    obtain ⟨h1, h2⟩ := minI_le r (if x < m then x else m)
    have h3 : (if x < m then x else m) ≤ m ∧ (if x < m then x else m) ≤ x := by split <;> omega
    exact ⟨Int.le_trans h1 h3.1, fun y hy => (List.mem_cons.mp hy).elim (fun e => by rw [e]; exact Int.le_trans h1 h3.2) (h2 y)⟩
theorem minI_mem : ∀ (l : List Int) (m : Int), minI m l = m ∨ minI m l ∈ l
  | [], m => .inl rfl
  | x :: r, m => by
    show minI (if x < m then x else m) r = m ∨ _
    rcases minI_mem r (if x < m then x else m) with h | h
    · by_cases hx : x < m
      · rw [if_pos hx] at h
        exact .inr (by show minI (if x < m then x else m) r ∈ _; rw [if_pos hx, h]; exact List.mem_cons_self)
      · rw [if_neg hx] at h ⊢
        exact .inl h
    · exact .inr (List.mem_cons_of_mem _ h)
def gMaxL : G1 := fun rs => match rs with
  | [r] => match r.lst with
    | some xs => (ofO (intsOf xs)).bind fun ns => match ns with
      | [] => .no
      | n :: r => .ok (.im (.int (maxI n r)))
    | none => .no
  | _ => .no
def gMinL : G1 := fun rs => match rs with
  | [r] => match r.lst with
    | some xs => (ofO (intsOf xs)).bind fun ns => match ns with
      | [] => .no
      | n :: r => .ok (.im (.int (minI n r)))
    | none => .no
  | _ => .no
theorem kcg_maxL : KCG kMaxL gMaxL := by
  intro rs P PX h
  unfold gMaxL at h
  split at h
  · rename_i r
    split at h
    · rename_i xs e
      obtain ⟨ns, eb, p⟩ := ofO_sat (Tr.sat_bind.mp h)
      cases ns with
      | nil => exact p.elim
      | cons n t =>
        refine ⟨r, n :: t, rfl, by rw [e, intsOf_eq eb], by simp, fun m hm hu => ?_⟩
        have e1 : m = maxI n t := by
          have a1 := maxI_le t n
          have a2 := maxI_mem t n
          have a3 : maxI n t ∈ n :: t := a2.elim (fun z => by rw [z]; exact List.mem_cons_self) (List.mem_cons_of_mem _)
          have a4 := hu _ a3
          have a5 : m ≤ maxI n t := (List.mem_cons.mp hm).elim (fun z => by rw [z]; exact a1.1) (a1.2 m)
          omega
        rw [e1]; exact p
    · exact h.elim
  · exact h.elim
theorem kcg_minL : KCG kMinL gMinL := by
  intro rs P PX h
  unfold gMinL at h
  split at h
  · rename_i r
    split at h
    · rename_i xs e
      obtain ⟨ns, eb, p⟩ := ofO_sat (Tr.sat_bind.mp h)
      cases ns with
      | nil => exact p.elim
      | cons n t =>
        refine ⟨r, n :: t, rfl, by rw [e, intsOf_eq eb], by simp, fun m hm hu => ?_⟩
        have e1 : m = minI n t := by
          have a1 := minI_le t n
          have a2 := minI_mem t n
          have a3 : minI n t ∈ n :: t := a2.elim (fun z => by rw [z]; exact List.mem_cons_self) (List.mem_cons_of_mem _)
          have a4 := hu _ a3
          have a5 : minI n t ≤ m := (List.mem_cons.mp hm).elim (fun z => by rw [z]; exact a1.1) (a1.2 m)
          omega
        rw [e1]; exact p
    · exact h.elim
  · exact h.elim
def gSum : G1 := fun rs => match rs with
  | [r] => match r.lst with
    | some xs => (ofO (intsOf xs)).bind fun ns => .ok (.im (.int ns.sum))
    | none => .no
  | _ => .no
theorem kcg_sum : KCG kSum gSum := by
  intro rs P PX h
  unfold gSum at h
  split at h
  · rename_i r
    split at h
    · rename_i xs e
      obtain ⟨ns, eb, p⟩ := ofO_sat (Tr.sat_bind.mp h)
      exact ⟨r, ns, rfl, by rw [e, intsOf_eq eb], p⟩
    · exact h.elim
  · exact h.elim
def gAbs : G1 := fun rs => match rs with
  | [.im (.int i)] => .ok (.im (.int (if i < 0 then -i else i)))
  | _ => .no
theorem kcg_abs : KCG kAbs gAbs := by
  intro rs P PX h
  unfold gAbs at h
  split at h
  · exact ⟨_, rfl, h⟩
  · exact h.elim
/-! ### methods -/
abbrev GM := R → List R → Tr R
def fMt (g : GM) (fo : FE) (fa : FA) : FE := fun δ => (fo δ).bind fun r => (fa δ).bind fun rs => g r rs
def gSIndex : GM := fun r rs => match r, rs with
  | .im (.str a), [.im (.str b)] => match Builtin.Str.occurrences a b 0 a.length 1 with
    | i :: _ => .ok (.im (.int (i : Nat)))
    | [] => .no
  | _, _ => .no
def gJoin : GM := fun r rs => match r, rs with
  | .im (.str a), [r] => match r.lst with
    | some xs => (ofO (strsOf xs)).bind fun ys => gd (szOk ((ys.map (·.length)).sum + ys.length * a.length)) (.ok (.im (.str (Txt.join a ys))))
    | none => .no
  | _, _ => .no
def findD (d : D) : List D → Nat → Option Nat
  | [], _ => none
  | z :: r, i => if PyData.eqv z d then some i else findD d r (i + 1)
def gLIndex : GM := fun r rs => match r.lst, rs with
  | some ds, [r] => match r.datA with
    | some d => gd (shp (.list ds) && shp d) ((ofO (findD d ds 0)).bind fun j => .ok (.im (.int (j : Nat))))
    | none => .no
  | _, _ => .no
theorem findD_ok {d : D} : ∀ {l : List D} {i j : Nat}, findD d l i = some j → i ≤ j ∧ (∃ z, l[j - i]? = some z ∧ PyData.eqv z d = true) ∧ ∀ m z', m < j - i → l[m]? = some z' → PyData.eqv z' d = false
  | [], _, _, h => by cases h
  | z :: r, i, j, h => by
    unfold findD at h
    by_cases e : PyData.eqv z d = true
    · rw [if_pos e] at h
      cases h
      refine ⟨Nat.le_refl _, ⟨z, by rw [Nat.sub_self]; rfl, e⟩, fun m z' hm => by omega⟩
    · rw [if_neg e] at h
      obtain ⟨h1, ⟨z1, h2, h3⟩, h4⟩ := findD_ok h
      refine ⟨by omega, ⟨z1, ?_, h3⟩, fun m z' hm hz => ?_⟩
      · rw [show j - i = (j - (i + 1)) + 1 by omega]; exact h2
      · cases m with
        | zero => cases hz; exact Bool.eq_false_iff.mpr e
        | succ m => exact h4 m z' (by omega) (by simpa using hz)
end FW
set_option Elab.async false
set_option linter.all false
set_option maxRecDepth 100000
set_option maxHeartbeats 4000000
namespace FW
open PySem PySem.Spec L2 DW
/-! ### the first place of a sign -/
theorem occ_stay (s sub : Str) (hi : Nat) : ∀ (l : List Nat) (st : Array Nat × Nat), 1 ≤ st.fst.size → (forIn (m := Id) l st (StrLaws.occBody s sub hi 1)).run.fst = st.fst
  | [], st, _ => rfl
  | a :: l, st, h => by
    rw [List.forIn_cons]
    have c : ¬ (((st.fst.size < 1 ∧ st.snd ≤ a) ∧ a + sub.length ≤ hi) ∧ Builtin.Str.subAt s sub a = true) := fun z => by omega
    unfold StrLaws.occBody
    rw [if_neg c]
    exact occ_stay s sub hi l _ h
theorem occ_go (x : Str) (c : Nat) : ∀ (n k free : Nat), free ≤ k → (∃ i, i < n ∧ x.cps.toList[k + i]? = some c) → (∀ i, i < k → x.cps.toList[i]? ≠ some c) →
    (forIn (m := Id) (List.range' k n) ((#[] : Array Nat), free) (StrLaws.occBody x ⟨#[c]⟩ x.length 1)).run.fst = #[x.cps.toList.idxOf c]
  | 0, k, free, _, ⟨i, h, _⟩, _ => by omega
  | n + 1, k, free, hf, ⟨i, hi, he⟩, hno => by
    rw [List.range'_succ, List.forIn_cons]
    by_cases hk : x.cps.toList[k]? = some c
    · have c1 := (StrLaws.subAt_one x c k).mpr hk
      have c2 : ((((#[] : Array Nat), free).fst.size < 1 ∧ ((#[] : Array Nat), free).snd ≤ k) ∧ k + (⟨#[c]⟩ : Str).length ≤ x.length) ∧ Builtin.Str.subAt x ⟨#[c]⟩ k = true := ⟨⟨⟨by simp, hf⟩, c1.1⟩, c1.2⟩
      unfold StrLaws.occBody
      rw [if_pos c2]
      have e := occ_stay x ⟨#[c]⟩ x.length (List.range' (k + 1) n) ((#[] : Array Nat).push k, k + (⟨#[c]⟩ : Str).length) (by simp)
      unfold StrLaws.occBody at e
      refine e.trans ?_
      have hidx : x.cps.toList.idxOf c = k := by
        obtain ⟨hlt, hke⟩ := List.getElem?_eq_some_iff.mp hk
        have hm : c ∈ x.cps.toList := by rw [← hke]; exact List.getElem_mem hlt
        have h1 : x.cps.toList.idxOf c ≤ k := by
          by_cases hh : x.cps.toList.idxOf c ≤ k
          · exact hh
          · have := List.not_of_lt_findIdx (p := (· == c)) (xs := x.cps.toList) (i := k) (by unfold List.idxOf at hh; omega)
            rw [hke] at this
            simp at this
        have h2 := List.idxOf_lt_length_of_mem hm
        by_cases hh : x.cps.toList.idxOf c = k
        · exact hh
        · have := hno (x.cps.toList.idxOf c) (by omega)
          exact absurd (by rw [List.getElem?_eq_getElem h2, List.getElem_idxOf]) this
      show (#[].push k : Array Nat) = _
      rw [hidx]; rfl
    · have c2 : ¬ (((((#[] : Array Nat), free).fst.size < 1 ∧ ((#[] : Array Nat), free).snd ≤ k) ∧ k + (⟨#[c]⟩ : Str).length ≤ x.length) ∧ Builtin.Str.subAt x ⟨#[c]⟩ k = true) := fun z => hk ((StrLaws.subAt_one x c k).mp ⟨z.1.2, z.2⟩)
      unfold StrLaws.occBody
      rw [if_neg c2]
      have e := occ_go x c n (k + 1) free (by omega) ?_ ?_
      · unfold StrLaws.occBody at e
        exact e
      · refine ⟨i - 1, ?_, ?_⟩
        · have : i ≠ 0 := fun z => hk (by rw [z] at he; exact he)
          omega
        · have : i ≠ 0 := fun z => hk (by rw [z] at he; exact he)
          rw [show k + 1 + (i - 1) = k + i by omega]; exact he
      · intro j hj
        by_cases e : j = k
        · rw [e]; exact hk
        · exact hno j (by omega)
theorem occ_sign (x : Str) (c : Nat) (h : c ∈ x.cps.toList) : Builtin.Str.occurrences x ⟨#[c]⟩ 0 x.length 1 = [x.cps.toList.idxOf c] := by
  rw [StrLaws.occ_eq]
  have hl := List.idxOf_lt_length_of_mem h
  have hz : x.cps.toList.length = x.length := Array.length_toList
  rw [occ_go x c _ 0 0 (Nat.le_refl _) ⟨x.cps.toList.idxOf c, by omega, by rw [Nat.zero_add, List.getElem?_eq_getElem hl, List.getElem_idxOf]⟩ (fun i hi => by omega)]
def idx1 (c : Nat) : List Nat → Nat → Option Nat
  | [], _ => none
  | x :: r, i => if x = c then some i else idx1 c r (i + 1)
theorem idx1_eq (c : Nat) : ∀ (l : List Nat) (i : Nat), idx1 c l i = if c ∈ l then some (i + l.idxOf c) else none
  | [], i => rfl
  | x :: r, i => by
    unfold idx1
    by_cases h : x = c
    · subst h; simp
    · rw [if_neg h, idx1_eq c r (i + 1)]
      have h2 : ¬ c = x := fun z => h z.symm
      by_cases hm : c ∈ r
      · rw [if_pos hm, if_pos (List.mem_cons_of_mem _ hm)]; have hb : (x == c) = false := by simpa using h
        rw [List.idxOf_cons, hb]; simp; omega
      · rw [if_neg hm, if_neg (by simp [h2, hm])]
/-- text.index(sign) -/
def gSIdx : GM := fun r rs => match r, rs with
  | .im (.str a), [.im (.str b)] => (ofO (sign1 b)).bind fun c => (ofO (idx1 c a.cps.toList 0)).bind fun i => .ok (.im (.int (i : Nat)))
  | _, _ => .no
section
variable {X : Cx} {G : Gd} {W : WX} {st : Bool} {tg e a b c o kx vx : Expr} {es rest : List Expr} {fe fa fb fc fo : FE} {ft fu : FT} {faa : FA} {fi : FI} {pos p np : Pos} {ts us : List Nat}
abbrev E_ (X : Cx) (G : Gd) (W : WX) (e : Expr) (f : FE) : Prop := DE X G W e (wE X.K f)
abbrev T_ (X : Cx) (G : Gd) (W : WX) (e : Expr) (f : FT) : Prop := DT X G W e (wT X.K f)
abbrev TW_ (X : Cx) (G : Gd) (W : WX) (e : Expr) (f : FT) : Prop := DW_ X G W e (wT X.K f)
abbrev A_ (X : Cx) (G : Gd) (W : WX) (es : List Expr) (f : FA) : Prop := DA X G W es (wA X.K f)
abbrev I_ (X : Cx) (G : Gd) (W : WX) (st : Bool) (tg e : Expr) (f : FI) : Prop := DI X G W st tg e (wI X.K f)
theorem e_var {i : Nat} (h : PE X e (tVar i)) : E_ X G W e (fV i) := DE.imp (de_var h) fun δ P PX q => by
  unfold wE fV at q
  cases h : slotD δ i with
  | none => rw [h] at q; exact q.elim
  | some s => rw [h] at q; exact ⟨s, slotD_eq h, q⟩
theorem e_con {d : D} (h : DE X G W e (wC d)) : E_ X G W e (fC d) := DE.imp h fun δ P PX q => q
theorem e_op {k : KO} {g : G2} (h : DE X G W e (wOp k (wE X.K fa) (wE X.K fb))) (hk : KG k g) : E_ X G W e (fOp g fa fb) := DE.imp h fun δ P PX q =>
  Tr.sat_of (Tr.sat_bind.mp q) fun x qx => Tr.sat_of (Tr.sat_bind.mp qx) fun y qy => hk _ _ _ _ qy
/-- a test of a value -/
def tB (f : FE) : FT := fun δ => (f δ).bind fun r => match r with
  | .im (.bool b) => .ok b
  | _ => .no
theorem t_B (h : DT X G W e (wB (wE X.K fa))) : T_ X G W e (tB fa) := DT.imp h fun δ P PX q => Tr.sat_of (Tr.sat_bind.mp q) fun r qr => by
  split at qr
  · exact ⟨_, rfl, qr⟩
  · exact qr.elim
theorem t_op {k : KO} {g : G2} (h : DT X G W e (wB (wOp k (wE X.K fa) (wE X.K fb)))) (hk : KG k g) : T_ X G W e (tB (fOp g fa fb)) := DT.imp h fun δ P PX q =>
  Tr.sat_of (Tr.sat_bind.mp (Tr.sat_bind.mp q)) fun x qx => Tr.sat_of (Tr.sat_bind.mp qx) fun y qy => hk _ _ _ _ (Tr.sat_of qy fun r qr => by
    split at qr
    · exact ⟨_, rfl, qr⟩
    · exact qr.elim)
theorem e_add (ha : E_ X G W a fa) (hb : E_ X G W b fb) : E_ X G W (.BinOp a .Add b pos) (fOp gAdd fa fb) := e_op (de_add ha hb) kg_add
theorem e_sub (ha : E_ X G W a fa) (hb : E_ X G W b fb) : E_ X G W (.BinOp a .Sub b pos) (fOp gSub fa fb) := e_op (de_sub ha hb) kg_I
theorem e_mod (ha : E_ X G W a fa) (hb : E_ X G W b fb) : E_ X G W (.BinOp a .Mod b pos) (fOp gMod fa fb) := e_op (de_mod ha hb) (kg_IC fun _ _ h => of_decide_eq_true h)
theorem e_mulS (ha : E_ X G W a fa) (hb : E_ X G W b fb) : E_ X G W (.BinOp a .Mult b pos) (fOp gMulS fa fb) := e_op (de_mulS ha hb) kg_mulS
theorem e_fdiv (ha : E_ X G W a fa) (hb : E_ X G W b fb) : E_ X G W (.BinOp a .FloorDiv b pos) (fOp gDiv fa fb) := e_op (de_fdiv ha hb) (kg_IC fun i j h => by
  unfold divOk at h
  rw [Bool.and_eq_true] at h
  have h1 := of_decide_eq_true h.1
  have h2 := of_decide_eq_true h.2
  first | exact ⟨h1, h2⟩ | (unfold CDiv; omega) | exact ⟨by omega, by omega⟩)
theorem e_mul (ha : E_ X G W a fa) (hb : E_ X G W b fb) : E_ X G W (.BinOp a .Mult b pos) (fOp gMul fa fb) := e_op (de_mul ha hb) (kg_IC fun i j h => by
  unfold mulOk at h
  simp only [Bool.or_eq_true, Bool.and_eq_true, decide_eq_true_eq] at h
  unfold CMul
  omega)
theorem e_lt (ha : E_ X G W a fa) (hb : E_ X G W b fb) : E_ X G W (.Compare a [.Lt] [b] pos) (fOp gLt fa fb) := e_op (de_lt ha hb) kg_I
theorem e_le (ha : E_ X G W a fa) (hb : E_ X G W b fb) : E_ X G W (.Compare a [.LtE] [b] pos) (fOp gLe fa fb) := e_op (de_le ha hb) kg_I
theorem e_gt (ha : E_ X G W a fa) (hb : E_ X G W b fb) : E_ X G W (.Compare a [.Gt] [b] pos) (fOp gGt fa fb) := e_op (de_gt ha hb) kg_I
theorem e_ge (ha : E_ X G W a fa) (hb : E_ X G W b fb) : E_ X G W (.Compare a [.GtE] [b] pos) (fOp gGe fa fb) := e_op (de_ge ha hb) kg_I
theorem t_lt (ha : E_ X G W a fa) (hb : E_ X G W b fb) : T_ X G W (.Compare a [.Lt] [b] pos) (tB (fOp gLt fa fb)) := t_op (dt_lt ha hb) kg_I
theorem t_le (ha : E_ X G W a fa) (hb : E_ X G W b fb) : T_ X G W (.Compare a [.LtE] [b] pos) (tB (fOp gLe fa fb)) := t_op (dt_le ha hb) kg_I
theorem t_gt (ha : E_ X G W a fa) (hb : E_ X G W b fb) : T_ X G W (.Compare a [.Gt] [b] pos) (tB (fOp gGt fa fb)) := t_op (dt_gt ha hb) kg_I
theorem t_ge (ha : E_ X G W a fa) (hb : E_ X G W b fb) : T_ X G W (.Compare a [.GtE] [b] pos) (tB (fOp gGe fa fb)) := t_op (dt_ge ha hb) kg_I
theorem e_eq (hu : X.A.units + 64 < cLine) (ha : E_ X G W a fa) (hb : E_ X G W b fb) : E_ X G W (.Compare a [.Eq] [b] pos) (fOp gEq fa fb) := e_op (de_eq hu ha hb) kg_eq
theorem e_ne (hu : X.A.units + 64 < cLine) (ha : E_ X G W a fa) (hb : E_ X G W b fb) : E_ X G W (.Compare a [.NotEq] [b] pos) (fOp gNe fa fb) := e_op (de_ne hu ha hb) kg_ne
theorem t_eq (hu : X.A.units + 64 < cLine) (ha : E_ X G W a fa) (hb : E_ X G W b fb) : T_ X G W (.Compare a [.Eq] [b] pos) (tB (fOp gEq fa fb)) := t_op (dt_eq hu ha hb) kg_eq
theorem t_ne (hu : X.A.units + 64 < cLine) (ha : E_ X G W a fa) (hb : E_ X G W b fb) : T_ X G W (.Compare a [.NotEq] [b] pos) (tB (fOp gNe fa fb)) := t_op (dt_ne hu ha hb) kg_ne
theorem e_isN (ha : E_ X G W a fa) (hb : E_ X G W b fb) : E_ X G W (.Compare a [.Is] [b] pos) (fOp (gIsN false) fa fb) := e_op (de_isN ha hb) kg_isN
theorem e_notN (ha : E_ X G W a fa) (hb : E_ X G W b fb) : E_ X G W (.Compare a [.IsNot] [b] pos) (fOp (gIsN true) fa fb) := e_op (de_notN ha hb) kg_notN
theorem t_isN (ha : E_ X G W a fa) (hb : E_ X G W b fb) : T_ X G W (.Compare a [.Is] [b] pos) (tB (fOp (gIsN false) fa fb)) := t_op (dt_isN ha hb) kg_isN
theorem t_notN (ha : E_ X G W a fa) (hb : E_ X G W b fb) : T_ X G W (.Compare a [.IsNot] [b] pos) (tB (fOp (gIsN true) fa fb)) := t_op (dt_notN ha hb) kg_notN
theorem e_inL (hu : X.A.units + 65 < cLine) (ha : E_ X G W a fa) (hb : E_ X G W b fb) (hm : behindInMarks .In b = false := by rfl) : E_ X G W (.Compare a [.In] [b] pos) (fOp (gInL false) fa fb) := e_op (de_inL hu ha hb hm) kg_inL
theorem e_notInL (hu : X.A.units + 65 < cLine) (ha : E_ X G W a fa) (hb : E_ X G W b fb) (hm : behindInMarks .NotIn b = false := by rfl) : E_ X G W (.Compare a [.NotIn] [b] pos) (fOp (gInL true) fa fb) := e_op (de_notInL hu ha hb hm) kg_inL
theorem t_inL (hu : X.A.units + 65 < cLine) (ha : E_ X G W a fa) (hb : E_ X G W b fb) (hm : behindInMarks .In b = false := by rfl) : T_ X G W (.Compare a [.In] [b] pos) (tB (fOp (gInL false) fa fb)) := t_op (dt_inL hu ha hb hm) kg_inL
theorem t_notInL (hu : X.A.units + 65 < cLine) (ha : E_ X G W a fa) (hb : E_ X G W b fb) (hm : behindInMarks .NotIn b = false := by rfl) : T_ X G W (.Compare a [.NotIn] [b] pos) (tB (fOp (gInL true) fa fb)) := t_op (dt_notInL hu ha hb hm) kg_inL
theorem e_inT (ha : E_ X G W a fa) (hb : E_ X G W b fb) (hm : behindInMarks .In b = false := by rfl) : E_ X G W (.Compare a [.In] [b] pos) (fOp (gInT false) fa fb) := e_op (de_inT ha hb hm) kg_inT
theorem e_notInT (ha : E_ X G W a fa) (hb : E_ X G W b fb) (hm : behindInMarks .NotIn b = false := by rfl) : E_ X G W (.Compare a [.NotIn] [b] pos) (fOp (gInT true) fa fb) := e_op (de_notInT ha hb hm) kg_inT
theorem t_inT (ha : E_ X G W a fa) (hb : E_ X G W b fb) (hm : behindInMarks .In b = false := by rfl) : T_ X G W (.Compare a [.In] [b] pos) (tB (fOp (gInT false) fa fb)) := t_op (dt_inT ha hb hm) kg_inT
theorem t_notInT (ha : E_ X G W a fa) (hb : E_ X G W b fb) (hm : behindInMarks .NotIn b = false := by rfl) : T_ X G W (.Compare a [.NotIn] [b] pos) (tB (fOp (gInT true) fa fb)) := t_op (dt_notInT ha hb hm) kg_inT
theorem e_inS (ha : E_ X G W a fa) (hb : E_ X G W b fb) (hm : behindInMarks .In b = false := by rfl) : E_ X G W (.Compare a [.In] [b] pos) (fOp (gInS false) fa fb) := e_op (de_inS ha hb hm) kg_inS
theorem t_inS (ha : E_ X G W a fa) (hb : E_ X G W b fb) (hm : behindInMarks .In b = false := by rfl) : T_ X G W (.Compare a [.In] [b] pos) (tB (fOp (gInS false) fa fb)) := t_op (dt_inS ha hb hm) kg_inS
theorem e_ix (ha : E_ X G W a fa) (hb : E_ X G W b fb) (hs : PlainIx b := by exact fun _ _ => rfl) : E_ X G W (.Subscript a b pos) (fOp gIx fa fb) := e_op (de_ix ha hb hs) kg_ix
theorem e_dget (hu : X.A.units + 1 < cLine) (ha : E_ X G W a fa) (hb : E_ X G W b fb) (hs : NoSl b := by exact fun _ _ => rfl) : E_ X G W (.Subscript a b pos) (fOp gDget fa fb) := DE.imp (de_dget hu ha hb hs) fun δ P PX q =>
  Tr.sat_of (Tr.sat_bind.mp q) fun x qx => Tr.sat_of (Tr.sat_bind.mp qx) fun y qy => by
    unfold gDget at qy
    split at qy
    · rename_i d e1; exact ⟨d, getO_ok e1, qy⟩
    · exact qy.elim
theorem din_ok {neg : Bool} {x y : R} {P : R → Prop} {PX : Xn → Prop} (h : (gDin neg x y).sat P PX) : ∃ o, dGet y x o ∧ P (.im (.bool (if neg then !o.isSome else o.isSome))) := by
  unfold gDin at h
  split at h
  · rename_i o e; exact ⟨o, getO_ok e, h⟩
  · exact h.elim
theorem e_din (hu : X.A.units + 1 < cLine) (ha : E_ X G W a fa) (hb : E_ X G W b fb) (hm : behindInMarks .In b = false := by rfl) : E_ X G W (.Compare a [.In] [b] pos) (fOp (gDin false) fa fb) := DE.imp (de_din hu ha hb hm) fun δ P PX q =>
  Tr.sat_of (Tr.sat_bind.mp q) fun x qx => Tr.sat_of (Tr.sat_bind.mp qx) fun y qy => din_ok qy
theorem e_dnotin (hu : X.A.units + 1 < cLine) (ha : E_ X G W a fa) (hb : E_ X G W b fb) (hm : behindInMarks .NotIn b = false := by rfl) : E_ X G W (.Compare a [.NotIn] [b] pos) (fOp (gDin true) fa fb) := DE.imp (de_dnotin hu ha hb hm) fun δ P PX q =>
  Tr.sat_of (Tr.sat_bind.mp q) fun x qx => Tr.sat_of (Tr.sat_bind.mp qx) fun y qy => din_ok qy
theorem tdin_ok {neg : Bool} {x y : R} {P : Bool → Prop} {PX : Xn → Prop} (h : (gDin neg x y).sat (fun r => (match r with | .im (.bool b) => Tr.ok b | _ => .no).sat P PX) PX) : ∃ o, dGet y x o ∧ ∃ b, (R.im (.bool (if neg then !o.isSome else o.isSome))) = .im (.bool b) ∧ P b := by
  obtain ⟨o, h1, h2⟩ := din_ok h
  exact ⟨o, h1, _, rfl, h2⟩
theorem t_din (hu : X.A.units + 1 < cLine) (ha : E_ X G W a fa) (hb : E_ X G W b fb) (hm : behindInMarks .In b = false := by rfl) : T_ X G W (.Compare a [.In] [b] pos) (tB (fOp (gDin false) fa fb)) := DT.imp (dt_din hu ha hb hm) fun δ P PX q =>
  Tr.sat_of (Tr.sat_bind.mp (Tr.sat_bind.mp q)) fun x qx => Tr.sat_of (Tr.sat_bind.mp qx) fun y qy => tdin_ok qy
theorem t_dnotin (hu : X.A.units + 1 < cLine) (ha : E_ X G W a fa) (hb : E_ X G W b fb) (hm : behindInMarks .NotIn b = false := by rfl) : T_ X G W (.Compare a [.NotIn] [b] pos) (tB (fOp (gDin true) fa fb)) := DT.imp (dt_dnotin hu ha hb hm) fun δ P PX q =>
  Tr.sat_of (Tr.sat_bind.mp (Tr.sat_bind.mp q)) fun x qx => Tr.sat_of (Tr.sat_bind.mp qx) fun y qy => tdin_ok qy
/-! ### argument lists, displays, calls -/
theorem a_nil : A_ X G W [] aNil := DA.imp da_nil fun δ P PX q => q
theorem a_cons (he : E_ X G W e fe) (ha : A_ X G W es faa) (hs : starEach (e :: es) X.env = (false, eval e X.env) :: starEach es X.env := by rfl) : A_ X G W (e :: es) (aCons fe faa) := DA.imp (da_cons he ha hs) fun δ P PX q =>
  Tr.sat_of (Tr.sat_bind.mp q) fun r qr => Tr.sat_bind.mp qr
theorem a_fcons (he : E_ X G W e fe) (ha : A_ X G W es faa) (hs : starEach (e :: es) X.env = (false, eval e X.env) :: starEach es X.env := by rfl) : A_ X G W (e :: es) (aFCons fe faa) := DA.imp (da_fcons he ha hs) fun δ P PX q =>
  Tr.sat_of (Tr.sat_bind.mp q) fun r qr => by
    split at qr
    · rename_i r' e; exact ⟨r', e, Tr.sat_bind.mp qr⟩
    · exact qr.elim
theorem e_tup {k : Nat} (h : A_ X G W es faa) : E_ X G W (.Tuple es k pos) (fTup faa) := DE.imp (de_tup h) fun δ P PX q =>
  Tr.sat_of (Tr.sat_bind.mp q) fun r qr => by
    split at qr
    · rename_i ds e; obtain ⟨h1, h2⟩ := gd_sat qr; exact ⟨ds, e, szOk_ok h1, h2⟩
    · exact qr.elim
theorem e_lst (h : A_ X G W es faa) : E_ X G W (.List es pos) (fLst faa) := DE.imp (de_lst h) fun δ P PX q =>
  Tr.sat_of (Tr.sat_bind.mp q) fun r qr => by
    split at qr
    · rename_i ds e; obtain ⟨h1, h2⟩ := gd_sat qr; exact ⟨ds, e, szOk_ok h1, h2⟩
    · exact qr.elim
theorem e_callB {r : List V → Hp → VK → Prop} {k : KC} {g : G1} (h : PE X e (tCB r (dTA X.K G W (wA X.K faa)))) (hk : CallD X.K r k) (hg : KCG k g) : E_ X G W e (fCall g faa) := DE.imp (de_callB h hk) fun δ P PX q =>
  Tr.sat_of (Tr.sat_bind.mp q) fun rs qr => hg _ _ _ qr
/-- tuple(range(n)) -/
def fTupR1 (fa : FE) : FE := fun δ => (fa δ).bind fun r => match r with
  | .im (.int n) => gd (decide (0 ≤ n) && decide (n ≤ 16777216)) (.ok (.im (.tuple (intsD 0 n.toNat))))
  | _ => .no
theorem e_tupR1 {apos cpos : Pos} (hc : X.calm = true) (hg : Gl X "tuple") (hm : X.mg "tuple" = none) (hg2 : Gl X "range") (hm2 : X.mg "range" = none) (ha : E_ X G W a fa) (na : starEach [a] X.env = (false, eval a X.env) :: starEach [] X.env := by rfl)
    (nb : starEach [.Call (.Name "range" apos) [a] [] cpos] X.env = (false, eval (.Call (.Name "range" apos) [a] [] cpos) X.env) :: starEach [] X.env := by rfl) : E_ X G W (.Call (.Name "tuple" p) [.Call (.Name "range" apos) [a] [] cpos] [] pos) (fTupR1 fa) :=
  DE.imp (de_tupR1 hc hg hm hg2 hm2 ha na nb) fun δ P PX q => Tr.sat_of (Tr.sat_bind.mp q) fun r qr => by
    split at qr
    · obtain ⟨h1, h2⟩ := gd_sat qr
      rw [Bool.and_eq_true] at h1
      exact ⟨_, rfl, of_decide_eq_true h1.1, of_decide_eq_true h1.2, h2⟩
    · exact qr.elim
/-! ### methods -/
def KMG (ok : R → Prop) (k : R → KC) (g : GM) : Prop := ∀ r rs P PX, (g r rs).sat P PX → ok r ∧ k r rs P
theorem e_mt {T : String} {r : V → List V → Hp → VK → Prop} {ok : R → Prop} {k : R → KC} {g : GM} (h : PE X e (tBM X.K T r (dT X.K G W (wE X.K fo)) (dTA X.K G W (wA X.K faa)))) (hk : MtD X.K T r ok k) (hok : ∀ r0 rs P PX, (g r0 rs).sat P PX → k r0 rs P) (hr : ∀ r0 rs P PX, (g r0 rs).sat P PX → ok r0)
    (okF : ∀ δ P PX, (fo δ).sat (fun r0 => (faa δ).sat (fun rs => (g r0 rs).sat P PX) PX) PX → (fo δ).sat (fun r0 => ok r0 ∧ (faa δ).sat (fun rs => (g r0 rs).sat P PX) PX) PX) : E_ X G W e (fMt g fo faa) := DE.imp (de_mt h hk) fun δ P PX q => by
  have q1 := Tr.sat_of (Tr.sat_bind.mp q) fun r qr => Tr.sat_bind.mp qr
  have q2 := okF δ P _ q1
  exact Tr.sat_of q2 fun r ⟨h1, h2⟩ => ⟨h1, Tr.sat_of h2 fun rs qr => hok _ _ _ _ qr⟩
/-- a method whose receiver is looked at first -/
def fMtK (okB : R → Bool) (g : GM) (fo : FE) (fa : FA) : FE := fun δ => (fo δ).bind fun r => gd (okB r) ((fa δ).bind fun rs => g r rs)
theorem e_mtK {T : String} {r : V → List V → Hp → VK → Prop} {ok : R → Prop} {k : R → KC} {okB : R → Bool} {g : GM} (h : PE X e (tBM X.K T r (dT X.K G W (wE X.K fo)) (dTA X.K G W (wA X.K faa)))) (hk : MtD X.K T r ok k) (hok : ∀ r0, okB r0 = true → ok r0) (hg : ∀ r0 rs P PX, (g r0 rs).sat P PX → k r0 rs P) : E_ X G W e (fMtK okB g fo faa) := DE.imp (de_mt h hk) fun δ P PX q =>
  Tr.sat_of (Tr.sat_bind.mp q) fun r qr => by
    obtain ⟨h1, h2⟩ := gd_sat qr
    exact ⟨hok _ h1, Tr.sat_of (Tr.sat_bind.mp h2) fun rs qr => hg _ _ _ _ qr⟩
def isSB : R → Bool
  | .im (.str _) => true
  | _ => false
def isLB (r : R) : Bool := r.lst.isSome
theorem isSB_ok (r : R) (h : isSB r = true) : isS r := by
  unfold isSB at h
  split at h
  · exact ⟨_, rfl⟩
  · cases h
theorem isLB_ok (r : R) (h : isLB r = true) : isL r := by
  unfold isLB at h
  cases e : r.lst with
  | none => rw [e] at h; cases h
  | some xs => exact ⟨xs, e⟩
theorem kmg_sindex (r0 : R) (rs : List R) (P : R → Prop) (PX : Xn → Prop) (h : (gSIdx r0 rs).sat P PX) : kSIndex r0 rs P := by
  unfold gSIdx at h
  split at h
  · rename_i a b
    obtain ⟨c, e, p⟩ := ofO_sat (Tr.sat_bind.mp h)
    obtain ⟨i, e2, p2⟩ := ofO_sat (Tr.sat_bind.mp p)
    obtain rfl := sign1_eq e
    rw [idx1_eq] at e2
    split at e2
    · rename_i hm
      cases e2
      refine ⟨a, _, _, [], rfl, rfl, occ_sign a c hm, ?_⟩
      rw [Nat.zero_add] at p2
      exact p2
    · cases e2
  · exact h.elim
theorem kmg_join (r0 : R) (rs : List R) (P : R → Prop) (PX : Xn → Prop) (h : (gJoin r0 rs).sat P PX) : kJoin r0 rs P := by
  unfold gJoin at h
  split at h
  · rename_i a r
    split at h
    · rename_i xs e
      obtain ⟨ys, e2, p⟩ := ofO_sat (Tr.sat_bind.mp h)
      obtain ⟨h1, h2⟩ := gd_sat p
      exact ⟨a, r, ys, rfl, rfl, by rw [e, strsOf_eq e2], of_decide_eq_true h1, h2⟩
    · exact h.elim
  · exact h.elim
theorem kmg_lindex (r0 : R) (rs : List R) (P : R → Prop) (PX : Xn → Prop) (h : (gLIndex r0 rs).sat P PX) : kLIndex r0 rs P := by
  unfold gLIndex at h
  split at h
  · rename_i ds r e
    split at h
    · rename_i d ed
      obtain ⟨h1, h2⟩ := gd_sat h
      obtain ⟨j, e2, p⟩ := ofO_sat (Tr.sat_bind.mp h2)
      rw [Bool.and_eq_true] at h1
      obtain ⟨a1, ⟨z, a2, a3⟩, a4⟩ := findD_ok e2
      exact ⟨ds, r, d, j, z, e, rfl, ed, h1.1, h1.2, a2, a3, a4, p⟩
    · exact h.elim
  · exact h.elim
/-! ### truth -/
def fAnd (fa fb : FE) : FE := fun δ => (fa δ).bind fun r => match r with
  | .im (.bool true) => fb δ
  | .im (.bool false) => .ok (.im (.bool false))
  | _ => .no
def fOr (fa fb : FE) : FE := fun δ => (fa δ).bind fun r => match r with
  | .im (.bool true) => .ok (.im (.bool true))
  | .im (.bool false) => fb δ
  | _ => .no
def fNot (fa : FE) : FE := fun δ => (fa δ).bind fun r => match r with
  | .im (.bool b) => .ok (.im (.bool (!b)))
  | _ => .no
theorem e_one {op} (h : E_ X G W a fa) : E_ X G W (.BoolOp op [a] pos) fa := de_one h
theorem e_and (ha : E_ X G W a fa) (hb : E_ X G W (.BoolOp .And (b :: rest) pos) fb) : E_ X G W (.BoolOp .And (a :: b :: rest) pos) (fAnd fa fb) := DE.imp (de_and ha hb) fun δ P PX q =>
  Tr.sat_of (Tr.sat_bind.mp q) fun r qr => by
    split at qr
    · exact ⟨true, rfl, qr⟩
    · exact ⟨false, rfl, qr⟩
    · exact qr.elim
theorem e_or (ha : E_ X G W a fa) (hb : E_ X G W (.BoolOp .Or (b :: rest) pos) fb) : E_ X G W (.BoolOp .Or (a :: b :: rest) pos) (fOr fa fb) := DE.imp (de_or ha hb) fun δ P PX q =>
  Tr.sat_of (Tr.sat_bind.mp q) fun r qr => by
    split at qr
    · exact ⟨true, rfl, qr⟩
    · exact ⟨false, rfl, qr⟩
    · exact qr.elim
theorem e_not (ha : E_ X G W a fa) : E_ X G W (.UnaryOp .Not a pos) (fNot fa) := DE.imp (de_not ha) fun δ P PX q =>
  Tr.sat_of (Tr.sat_bind.mp q) fun r qr => by
    split at qr
    · exact ⟨_, rfl, qr⟩
    · exact qr.elim
def tAndF (t u : FT) : FT := fun δ => (t δ).bind fun b => match b with
  | true => u δ
  | false => .ok false
def tOrF (t u : FT) : FT := fun δ => (t δ).bind fun b => match b with
  | true => .ok true
  | false => u δ
def tNotF (t : FT) : FT := fun δ => (t δ).bind fun b => .ok (!b)
theorem w_and1 (ha : T_ X G W a ft) : TW_ X G W (.BoolOp .And [a] pos) ft := dw_and1 ha
theorem w_or1 (ha : T_ X G W a ft) : TW_ X G W (.BoolOp .Or [a] pos) ft := dw_or1 ha
theorem w_and (ha : T_ X G W a ft) (hb : TW_ X G W (.BoolOp .And (b :: rest) pos) fu) : TW_ X G W (.BoolOp .And (a :: b :: rest) pos) (tAndF ft fu) := DWw.imp (dw_and ha hb) fun δ P PX q =>
  Tr.sat_of (Tr.sat_bind.mp q) fun c qr => by cases c <;> exact qr
theorem w_or (ha : T_ X G W a ft) (hb : TW_ X G W (.BoolOp .Or (b :: rest) pos) fu) : TW_ X G W (.BoolOp .Or (a :: b :: rest) pos) (tOrF ft fu) := DWw.imp (dw_or ha hb) fun δ P PX q =>
  Tr.sat_of (Tr.sat_bind.mp q) fun c qr => by cases c <;> exact qr
theorem t_w (h : TW_ X G W e ft) : T_ X G W e ft := dt_w h
theorem t_not (ha : T_ X G W a ft) : T_ X G W (.UnaryOp .Not a pos) (tNotF ft) := DT.imp (dt_not ha) fun δ P PX q => Tr.sat_bind.mp q
theorem t_val (h : E_ X G W e fa) (he : ∀ whole, isTrue e X.env whole = (do let v ← whole; standAt e.pos; holding [v] (truthy v)) := by intro _; rfl) : T_ X G W e (tB fa) := t_B (dt_val h he)
def tTruF (f : FE) : FT := fun δ => (f δ).bind fun r => ofO (truR r)
theorem t_tru (ha : E_ X G W a fa) (he : ∀ whole, isTrue a X.env whole = (do let v ← whole; standAt a.pos; holding [v] (truthy v)) := by intro _; rfl) : T_ X G W a (tTruF fa) := DT.imp (dt_tru ha he) fun δ P PX q =>
  Tr.sat_of (Tr.sat_bind.mp q) fun r qr => let ⟨b, e, p⟩ := ofO_sat qr; ⟨b, e, p⟩
def fIf (t : FT) (fa fb : FE) : FE := fun δ => (t δ).bind fun b => match b with
  | true => fa δ
  | false => fb δ
theorem e_if (hc : T_ X G W c ft) (ha : E_ X G W a fa) (hb : E_ X G W b fb) : E_ X G W (.IfExp c a b pos) (fIf ft fa fb) := DE.imp (de_if hc ha hb) fun δ P PX q =>
  Tr.sat_of (Tr.sat_bind.mp q) fun c qr => by cases c <;> exact qr
def fChain (g1 g2 : G2) (fa fb fc : FE) : FE := fun δ => (fa δ).bind fun x => (fb δ).bind fun y => (g1 x y).bind fun r => match r with
  | .im (.bool true) => (fc δ).bind fun z => g2 y z
  | .im (.bool false) => .ok (.im (.bool false))
  | _ => .no
theorem chain_ok {K : PySem.W.Frag} {k1 k2 : KO} {g1 g2 : G2} (h1 : KG k1 g1) (h2 : KG k2 g2) {δ : DEnv} {P : R → Prop} {PX : DX → Prop} (q : wE K (fChain g1 g2 fa fb fc) δ P PX) : wChain k1 k2 (wE K fa) (wE K fb) (wE K fc) δ P PX :=
  Tr.sat_of (Tr.sat_bind.mp q) fun x qx => Tr.sat_of (Tr.sat_bind.mp qx) fun y qy => h1 _ _ _ _ (Tr.sat_of (Tr.sat_bind.mp qy) fun r qr => by
    split at qr
    · exact ⟨true, rfl, Tr.sat_of (Tr.sat_bind.mp qr) fun z qz => h2 _ _ _ _ qz⟩
    · exact ⟨false, rfl, qr⟩
    · exact qr.elim)
theorem e_chain {op op' : CmpOp} {r r' : R2} {k1 k2 : KO} {g1 g2 : G2} (ho : OpR X (compareOp op) r) (ho' : OpR X (compareOp op') r') (h1 : OpD X.K r k1) (h2 : OpD X.K r' k2) (kg1 : KG k1 g1) (kg2 : KG k2 g2) (ha : E_ X G W a fa) (hb : E_ X G W b fb) (hc : E_ X G W c fc)
    (hm : lastMarks [op, op'] [b, c] = false := by with_unfolding_all rfl) : E_ X G W (.Compare a [op, op'] [b, c] pos) (fChain g1 g2 fa fb fc) := DE.imp (de_chain ho ho' h1 h2 ha hb hc hm) fun δ P PX q => chain_ok kg1 kg2 q
theorem t_chain {op op' : CmpOp} {r r' : R2} {k1 k2 : KO} {g1 g2 : G2} (ho : OpR X (compareOp op) r) (ho' : OpR X (compareOp op') r') (h1 : OpD X.K r k1) (h2 : OpD X.K r' k2) (kg1 : KG k1 g1) (kg2 : KG k2 g2) (ha : E_ X G W a fa) (hb : E_ X G W b fb) (hc : E_ X G W c fc)
    (hm : lastMarks [op, op'] [b, c] = false := by with_unfolding_all rfl) : T_ X G W (.Compare a [op, op'] [b, c] pos) (tB (fChain g1 g2 fa fb fc)) := DT.imp (dt_chain ho ho' h1 h2 ha hb hc hm) fun δ P PX q => by
  have q1 : wE X.K (fChain g1 g2 fa fb fc) δ (fun r => ∃ b, r = .im (.bool b) ∧ P b) PX := Tr.sat_of (Tr.sat_bind.mp q) fun r qr => by
    split at qr
    · exact ⟨_, rfl, qr⟩
    · exact qr.elim
  exact chain_ok kg1 kg2 q1
end
end FW
set_option Elab.async false
set_option linter.all false
set_option maxRecDepth 100000
set_option maxHeartbeats 4000000
namespace FW
open PySem PySem.Spec L2 DW
section
variable {X : Cx} {G : Gd} {W : WX} {st : Bool} {tg iter e a b c o elt kx vx : Expr} {es rest : List Expr} {fe fa fb fc fo fk fv : FE} {ft fu : FT} {faa : FA} {fi : FI} {fg : FG} {fgs : FGs} {pos p np p2 : Pos} {ts us : List Nat} {s : Stmt} {body : List Stmt}
abbrev G_ (X : Cx) (G : Gd) (ts : List Nat) (e : Expr) (f : FG) : Prop := DG X G ts e (wG f)
abbrev Gs_ (X : Cx) (G : Gd) (ts : List Nat) (es : List Expr) (f : FGs) : Prop := DGs X G ts es (wGs f)
/-! ### slices -/
abbrev FO := DEnv → Tr (Option Int)
def wO (K : PySem.W.Frag) (f : FO) : WO := fun δ P PX => (f δ).sat P fun x => PX (toX K x)
abbrev O_ (X : Cx) (G : Gd) (W : WX) (o : Option Expr) (f : FO) : Prop := DO X G W o (wO X.K f)
theorem DO.imp {o : Option Expr} {wo wo' : WO} (h : DO X G W o wo) (i : ∀ δ P PX, wo' δ P PX → wo δ P PX) : DO X G W o wo' := ⟨fun pins s σ H Q I ⟨F, δ, P, PX, S, p, k, xk⟩ => h.run pins s σ H Q I ⟨F, δ, P, PX, S, i _ _ _ p, k, xk⟩⟩
def oN : FO := fun _ => .ok none
def oS (f : FE) : FO := fun δ => (f δ).bind fun r => match r with
  | .im (.int i) => .ok (some i)
  | _ => .no
theorem o_none : O_ X G W none oN := DO.imp do_none fun δ P PX q => q
theorem o_some (he : E_ X G W e fe) : O_ X G W (some e) (oS fe) := DO.imp (do_some he) fun δ P PX q => Tr.sat_of (Tr.sat_bind.mp q) fun r qr => by
  split at qr
  · exact ⟨_, rfl, qr⟩
  · exact qr.elim
def gSlice (r : R) (lo hi : Option Int) : Tr R := match r with
  | .im (.str z) => gd (szOk z.length) (.ok (.im (.str (Txt.slice z lo hi))))
  | .im (.tuple xs) => .ok (.im (.tuple (cutD xs lo hi)))
  | r => match r.lst with
    | some xs => .ok (.ol (cutD xs lo hi))
    | none => .no
theorem slice_ok {r : R} {lo hi : Option Int} {P : R → Prop} {PX : Xn → Prop} (h : (gSlice r lo hi).sat P PX) : kSlice r lo hi P := by
  unfold gSlice at h
  split at h
  · obtain ⟨h1, h2⟩ := gd_sat h; exact ⟨szOk_ok h1, h2⟩
  · exact h
  · split at h
    · rename_i xs e
      cases r with
      | im d => cases d with
        | list ys => exact ⟨xs, e, h⟩
        | _ => cases e
      | ol ys => exact ⟨xs, e, h⟩
      | bl ys => exact ⟨xs, e, h⟩
      | _ => cases e
    · exact h.elim
def fSlice (fa : FE) (lo hi : FO) : FE := fun δ => (fa δ).bind fun r => (lo δ).bind fun l => (hi δ).bind fun h => gSlice r l h
theorem e_slice {lo hi : Option Expr} {fl fh : FO} (he : E_ X G W e fe) (hl : O_ X G W lo fl) (hh : O_ X G W hi fh) : E_ X G W (.Subscript e (.Slice lo hi none p2) pos) (fSlice fe fl fh) := DE.imp (de_slice he hl hh) fun δ P PX q =>
  Tr.sat_of (Tr.sat_bind.mp q) fun r qr => Tr.sat_of (Tr.sat_bind.mp qr) fun l ql => Tr.sat_of (Tr.sat_bind.mp ql) fun h qh => slice_ok qh
/-! ### targets -/
def gN (i : Nat) : FG := fun d δ => .ok (δ.set i (some (.im d)))
def gsNil : FGs := fun ds δ => match ds with
  | [] => .ok δ
  | _ => .no
def gsCons (g : FG) (gs : FGs) : FGs := fun ds δ => match ds with
  | d :: r => (g d δ).bind fun δ1 => gs r δ1
  | [] => .no
def gTup (n : Nat) (gs : FGs) : FG := fun d δ => match d with
  | .tuple ds => gd (decide (ds.length = n)) (gs ds δ)
  | _ => .no
def gUnl (n : Nat) (gs : FGs) : FG := fun d δ => match d with
  | .list ds => gd (decide (ds.length = n)) (gs ds δ)
  | _ => .no
theorem g_name {i : Nat} (h : PG X e (gName i)) : G_ X G [i] e (gN i) := DG.imp (dg_name h) fun d δ P q => q
theorem gs_nil : Gs_ X G [] [] gsNil := DGs.imp dgs_nil fun ds δ P q => by
  cases ds with
  | nil => exact ⟨rfl, q⟩
  | cons d r => exact q.elim
theorem gs_cons (h : G_ X G ts e fg) (hs : Gs_ X G us es fgs) (ha : (assignEach (e :: es) X.env).map (·.2) = assign e X.env :: (assignEach es X.env).map (·.2) := by rfl) : Gs_ X G (ts ++ us) (e :: es) (gsCons fg fgs) :=
  DGs.imp (dgs_cons h hs ha) fun ds δ P q => by
    cases ds with
    | nil => exact q.elim
    | cons d r => exact ⟨d, r, rfl, Tr.sat_bind.mp q⟩
theorem g_tup {n k : Nat} (hc : X.calm = true) (h : Gs_ X G ts es fgs) (hn : (assignEach es X.env).length = n := by rfl) (hst : (assignEach es X.env).findIdx? (·.1) = none := by rfl) : G_ X G ts (.Tuple es k pos) (gTup n fgs) :=
  DG.imp (dg_tup hc h hn hst) fun d δ P q => by
    unfold wG gTup at q
    split at q
    · obtain ⟨h1, h2⟩ := gd_sat q; exact ⟨_, rfl, of_decide_eq_true h1, h2⟩
    · exact q.elim
theorem g_unl {n k : Nat} (hc : X.calm = true) (h : Gs_ X G ts es fgs) (hn : (assignEach es X.env).length = n := by rfl) (hst : (assignEach es X.env).findIdx? (·.1) = none := by rfl) : G_ X G ts (.Tuple es k pos) (gUnl n fgs) :=
  DG.imp (dg_unl hc h hn hst) fun d δ P q => by
    unfold wG gUnl at q
    split at q
    · obtain ⟨h1, h2⟩ := gd_sat q; exact ⟨_, rfl, of_decide_eq_true h1, h2⟩
    · exact q.elim
/-! ### what is walked -/
def iL (f : FE) : FI := fun δ => (f δ).bind fun r => match r.dat with
  | some (.list xs) => .ok xs
  | _ => .no
def iLb (f : FE) : FI := fun δ => (f δ).bind fun r => ofO r.lst
def iT (f : FE) : FI := fun δ => (f δ).bind fun r => ofO r.tup
def iS (f : FE) : FI := fun δ => (f δ).bind fun r => match r with
  | .im (.str s) => .ok (signs s)
  | _ => .no
def rgOk (i : Int) : Bool := decide (i.natAbs < 4611686018427387904)
theorem rgOk_ok {i : Int} (h : rgOk i = true) : -(2 ^ 62) ≤ i ∧ i < 2 ^ 62 := by
  unfold rgOk at h
  have h1 := of_decide_eq_true h
  exact ⟨by omega, by omega⟩
def iR1 (fa : FA) : FI := fun δ => (fa δ).bind fun rs => match rs with
  | [.im (.int j)] => gd (rgOk j) (.ok (intsD 0 j.toNat))
  | _ => .no
def iR2 (fa : FA) : FI := fun δ => (fa δ).bind fun rs => match rs with
  | [.im (.int i), .im (.int j)] => gd (rgOk i && rgOk j) (.ok (intsD i (j - i).toNat))
  | _ => .no
def iE (fa : FA) : FI := fun δ => (fa δ).bind fun rs => match rs with
  | [r] => match r.dat with
    | some (.list xs) => .ok (enums xs)
    | _ => .no
  | _ => .no
theorem i_list (he : E_ X G W e fe) : I_ X G W true tg e (iL fe) := DI.imp (di_list he) fun δ P PX q => Tr.sat_of (Tr.sat_bind.mp q) fun r qr => by
  split at qr
  · rename_i xs e; exact ⟨xs, e, qr⟩
  · exact qr.elim
theorem i_listb (he : E_ X G W e fe) : I_ X G W false tg e (iLb fe) := DI.imp (di_listb he) fun δ P PX q => Tr.sat_of (Tr.sat_bind.mp q) fun r qr => let ⟨xs, e, p⟩ := ofO_sat qr; ⟨xs, e, p⟩
theorem i_tup (he : E_ X G W e fe) : I_ X G W true tg e (iT fe) := DI.imp (di_tup he) fun δ P PX q => Tr.sat_of (Tr.sat_bind.mp q) fun r qr => let ⟨xs, e, p⟩ := ofO_sat qr; ⟨xs, e, p⟩
theorem i_str (he : E_ X G W e fe) : I_ X G W true tg e (iS fe) := DI.imp (di_str he) fun δ P PX q => Tr.sat_of (Tr.sat_bind.mp q) fun r qr => by
  split at qr
  · exact ⟨_, rfl, qr⟩
  · exact qr.elim
theorem i_range1 (hg : Gl X "range") (hm : X.mg "range" = none) (ha : A_ X G W [a] faa) (hs : starEach [a] X.env = [(false, eval a X.env)] := by rfl) : I_ X G W st tg (.Call (.Name "range" p) [a] [] pos) (iR1 faa) := DI.imp (di_range1 hg hm ha hs) fun δ P PX q => Tr.sat_of (Tr.sat_bind.mp q) fun rs qr => by
  split at qr
  · obtain ⟨h1, h2⟩ := gd_sat qr
    have h3 := rgOk_ok h1
    exact ⟨_, rfl, h3.1, h3.2, h2⟩
  · exact qr.elim
theorem i_range2 (hg : Gl X "range") (hm : X.mg "range" = none) (ha : A_ X G W [a, b] faa) (hs : starEach [a, b] X.env = [(false, eval a X.env), (false, eval b X.env)] := by rfl) (hs2 : starEach [b] X.env = [(false, eval b X.env)] := by rfl) : I_ X G W st tg (.Call (.Name "range" p) [a, b] [] pos) (iR2 faa) :=
  DI.imp (di_range2 hg hm ha hs hs2) fun δ P PX q => Tr.sat_of (Tr.sat_bind.mp q) fun rs qr => by
    split at qr
    · obtain ⟨h1, h2⟩ := gd_sat qr
      rw [Bool.and_eq_true] at h1
      have h3 := rgOk_ok h1.1
      have h4 := rgOk_ok h1.2
      exact ⟨_, _, rfl, ⟨h3.1, h3.2, h4.1, h4.2⟩, h2⟩
    · exact qr.elim
theorem i_enum {elts : List Expr} {kk : Nat} {tpos : Pos} (hg : Gl X "enumerate") (hm : X.mg "enumerate" = none) (ha : A_ X G W [e] faa) (hs : starEach [e] X.env = [(false, eval e X.env)] := by rfl) : I_ X G W true (.Tuple elts kk tpos) (.Call (.Name "enumerate" p) [e] [] pos) (iE faa) :=
  DI.imp (di_enum hg hm ha hs) fun δ P PX q => Tr.sat_of (Tr.sat_bind.mp q) fun rs qr => by
    split at qr
    · split at qr
      · rename_i xs e1; exact ⟨_, xs, rfl, e1, qr⟩
      · exact qr.elim
    · exact qr.elim
/-! ### comprehensions -/
def calm {α : Type} : Tr α → Tr α
  | .ok a => .ok a
  | .draw m k => .draw m fun r => calm (k r)
  | _ => .no
theorem calm_sat {α : Type} {t : Tr α} {P : α → Prop} {PX PX' : Xn → Prop} (h : (calm t).sat P PX) : t.sat P PX' := by
  induction t with
  | ok a => exact h
  | ex x => exact h.elim
  | no => exact h.elim
  | draw m k ih => exact ⟨h.1, h.2.1, fun r r0 r1 => ih r (h.2.2 r r0 r1)⟩
/-- the items' turns: δ0 the environment ahead of each -/
def lcF (g : FG) (t : FT) (f : FE) (δ0 : DEnv) : List D → List D → Tr (List D)
  | [], acc => .ok acc
  | d :: ds, acc => (calm (g d δ0)).bind fun δ1 => (calm (t δ1)).bind fun b => match b with
    | true => (calm (f δ1)).bind fun r => match r.dat with
      | some d' => gd (decide (acc.length < 16777216)) (lcF g t f δ0 ds (acc ++ [d']))
      | none => .no
    | false => lcF g t f δ0 ds acc
def fLc (i : FI) (g : FG) (t : FT) (f : FE) (vs : List Nat) : FE := fun δ => (i δ).bind fun items => (lcF g t f (wipeD δ vs) items []).bind fun out => .ok (.ol out)
def tYes : FT := fun _ => .ok true
theorem lcF_ok {K : PySem.W.Frag} {g : FG} {t : FT} {f : FE} {δ0 : DEnv} {P : List D → Prop} {PX : Xn → Prop} : ∀ (items acc : List D), (lcF g t f δ0 items acc).sat P PX → lcGo (wG g) (wT K t) (wE K f) P δ0 items acc
  | [], acc, h => h
  | d :: ds, acc, h => by
    have h1 := calm_sat (PX' := fun _ => False) (Tr.sat_bind.mp h)
    refine Tr.sat_of h1 fun δ1 q1 => ?_
    have h2 := calm_sat (PX' := fun x => False) (Tr.sat_bind.mp q1)
    refine Tr.sat_of h2 fun b q2 => ?_
    cases b with
    | true =>
      rw [if_pos rfl]
      have h3 := calm_sat (PX' := fun x => False) (Tr.sat_bind.mp q2)
      refine Tr.sat_of h3 fun r q3 => ?_
      split at q3
      · rename_i d' e
        obtain ⟨h4, h5⟩ := gd_sat q3
        exact ⟨d', e, by rw [sizeLine_eq]; exact of_decide_eq_true h4, lcF_ok ds _ h5⟩
      · exact q3.elim
    | false =>
      rw [if_neg Bool.false_ne_true]
      exact lcF_ok ds _ q2
theorem lc_imp {K : PySem.W.Frag} {fi : FI} {g : FG} {t : FT} {f : FE} {vs : List Nat} {δ : DEnv} {P : R → Prop} {PX : DX → Prop} (q : wE K (fLc fi g t f vs) δ P PX) : wLc (wI K fi) (wG g) (wT K t) (wE K f) vs δ P PX :=
  Tr.sat_of (Tr.sat_bind.mp q) fun items qi => lcF_ok _ _ (Tr.sat_of (Tr.sat_bind.mp qi) fun out qo => qo)
section
variable {scope : Scope} {own : List (Str × Nat)}
theorem e_lc (hc : X.calm = true) (hN : X.N.Nodup) (hi : I_ X G W st tg iter fi) (ok : BlkOk X.N X.env.scope scope own)
    (hg : ∀ (s : Shared) (H : Hp) (C : Addr) (cl : List (Str × Addr)) (fp : List Addr), G_ (X.blk s H scope (compEnvC scope cl C X.env) fp) G ts tg fg)
    (he : ∀ (s : Shared) (H : Hp) (C : Addr) (cl : List (Str × Addr)) (fp : List Addr), E_ (X.blk s H scope (compEnvC scope cl C X.env) fp) G wTrue elt fe)
    (hts : ∀ t ∈ ts, t ∈ own.map (·.2) := by decide) (hs : ∀ x, foldedSetIterable iter X.env x = pure x := by intro _; rfl) : E_ X G W (.ListComp elt [⟨tg, iter, [], 0⟩] scope pos) (fLc fi fg tYes fe (own.map (·.2))) :=
  DE.imp (de_lc hc hN hi ok hg he hts hs) fun δ P PX q => lc_imp q
theorem e_lcIf (hc : X.calm = true) (hN : X.N.Nodup) (hi : I_ X G W st tg iter fi) (ok : BlkOk X.N X.env.scope scope own)
    (hg : ∀ (s : Shared) (H : Hp) (C : Addr) (cl : List (Str × Addr)) (fp : List Addr), G_ (X.blk s H scope (compEnvC scope cl C X.env) fp) G ts tg fg)
    (ht : ∀ (s : Shared) (H : Hp) (C : Addr) (cl : List (Str × Addr)) (fp : List Addr), T_ (X.blk s H scope (compEnvC scope cl C X.env) fp) G wTrue c ft)
    (he : ∀ (s : Shared) (H : Hp) (C : Addr) (cl : List (Str × Addr)) (fp : List Addr), E_ (X.blk s H scope (compEnvC scope cl C X.env) fp) G wTrue elt fe)
    (hts : ∀ t ∈ ts, t ∈ own.map (·.2) := by decide) (hs : ∀ x, foldedSetIterable iter X.env x = pure x := by intro _; rfl) : E_ X G W (.ListComp elt [⟨tg, iter, [c], 0⟩] scope pos) (fLc fi fg ft fe (own.map (·.2))) :=
  DE.imp (de_lcIf hc hN hi ok hg ht he hts hs) fun δ P PX q => lc_imp q
/-- the dict's own put -/
def putF (s : SV) (kd v : D) : Tr SV := match s with
  | .oK kvs => (ofO (DW.keyOf kd)).bind fun k => gd (decide (kvs.length < 16777216)) (.ok (.oK (putD kvs k v)))
  | .oT kvs => match kd with
    | .tuple ds => (ofO (DW.keysOf ds)).bind fun ks => gd (decide (kvs.length < 16777216)) (.ok (.oT (putD kvs ks v)))
    | _ => .no
  | _ => .no
theorem putF_ok {s : SV} {kd v : D} {P : SV → Prop} {PX : Xn → Prop} (h : (putF s kd v).sat P PX) : putE s kd v P := by
  unfold putF at h
  split at h
  · obtain ⟨k, e, p⟩ := ofO_sat (Tr.sat_bind.mp h)
    obtain ⟨h1, h2⟩ := gd_sat p
    exact ⟨k, e, by rw [sizeLine_eq]; exact of_decide_eq_true h1, h2⟩
  · split at h
    · obtain ⟨k, e, p⟩ := ofO_sat (Tr.sat_bind.mp h)
      obtain ⟨h1, h2⟩ := gd_sat p
      exact ⟨_, k, rfl, e, by rw [sizeLine_eq]; exact of_decide_eq_true h1, h2⟩
    · exact h.elim
  · exact h.elim
def dcF (g : FG) (t : FT) (fk fv : FE) (δ0 : DEnv) : List D → SV → Tr SV
  | [], s => .ok s
  | d :: ds, s => (calm (g d δ0)).bind fun δ1 => (calm (t δ1)).bind fun b => match b with
    | true => (calm (fk δ1)).bind fun rk => match rk with
      | .im kd => (calm (fv δ1)).bind fun r => match r.dat with
        | some v => (putF s kd v).bind fun s1 => dcF g t fk fv δ0 ds s1
        | none => .no
      | _ => .no
    | false => dcF g t fk fv δ0 ds s
def fDc (s0 : SV) (i : FI) (g : FG) (t : FT) (fk fv : FE) (vs : List Nat) : FE := fun δ => (i δ).bind fun items => (dcF g t fk fv (wipeD δ vs) items s0).bind fun s => .ok s.rO
theorem dcF_ok {K : PySem.W.Frag} {g : FG} {t : FT} {fk fv : FE} {δ0 : DEnv} {P : SV → Prop} {PX : Xn → Prop} : ∀ (items : List D) (s : SV), (dcF g t fk fv δ0 items s).sat P PX → dcGo (wG g) (wT K t) (wE K fk) (wE K fv) P δ0 items s
  | [], s, h => h
  | d :: ds, s, h => by
    have h1 := calm_sat (PX' := fun _ => False) (Tr.sat_bind.mp h)
    refine Tr.sat_of h1 fun δ1 q1 => ?_
    have h2 := calm_sat (PX' := fun _ => True) (Tr.sat_bind.mp q1)
    refine Tr.sat_of h2 fun b q2 => ?_
    cases b with
    | true =>
      rw [if_pos rfl]
      have h3 := calm_sat (PX' := fun _ => True) (Tr.sat_bind.mp q2)
      refine Tr.sat_of h3 fun rk q3 => ?_
      split at q3
      · rename_i kd
        refine ⟨kd, rfl, ?_⟩
        have h4 := calm_sat (PX' := fun _ => True) (Tr.sat_bind.mp q3)
        refine Tr.sat_of h4 fun r q4 => ?_
        split at q4
        · rename_i v e
          refine ⟨v, e, putF_ok (Tr.sat_of (Tr.sat_bind.mp q4) fun s1 q5 => dcF_ok ds s1 q5)⟩
        · exact q4.elim
      · exact q3.elim
    | false =>
      rw [if_neg Bool.false_ne_true]
      exact dcF_ok ds _ q2
theorem e_dc {o0 : HO} {s0 : SV} (em : Em o0 s0) (hu : X.A.units + 1 < cLine) (hc : X.calm = true) (hN : X.N.Nodup) (hi : I_ X G W st tg iter fi) (ok : BlkOk X.N X.env.scope scope own)
    (hg : ∀ (s : Shared) (H : Hp) (C : Addr) (cl : List (Str × Addr)) (fp : List Addr), G_ (X.blk s H scope (compEnvC scope cl C X.env) fp) G ts tg fg)
    (hk : ∀ (s : Shared) (H : Hp) (C : Addr) (cl : List (Str × Addr)) (fp : List Addr), E_ (X.blk s H scope (compEnvC scope cl C X.env) fp) G wTrue kx fk) (hv : ∀ (s : Shared) (H : Hp) (C : Addr) (cl : List (Str × Addr)) (fp : List Addr), E_ (X.blk s H scope (compEnvC scope cl C X.env) fp) G wTrue vx fv)
    (hts : ∀ t ∈ ts, t ∈ own.map (·.2) := by decide) (hs : ∀ x, foldedSetIterable iter X.env x = pure x := by intro _; rfl) : E_ X G W (.DictComp kx vx [⟨tg, iter, [], 0⟩] scope pos) (fDc s0 fi fg tYes fk fv (own.map (·.2))) :=
  DE.imp (de_dc em hu hc hN hi ok hg hk hv hts hs) fun δ P PX q => Tr.sat_of (Tr.sat_bind.mp q) fun items qi => dcF_ok _ _ (Tr.sat_of (Tr.sat_bind.mp qi) fun s qs => qs)
end
def fNewK : FE := fun _ => .ok (.oK [])
def fNewT : FE := fun _ => .ok (.oT [])
theorem e_newK : E_ X G W (.Dict [] [] pos) fNewK := DE.imp de_newK fun δ P PX q => q
theorem e_newT : E_ X G W (.Dict [] [] pos) fNewT := DE.imp de_newT fun δ P PX q => q
def fDispT (fk fv : FE) : FE := fun δ => (fk δ).bind fun r => match r with
  | .im (.tuple ds) => match DW.keysOf ds with
    | some ks => (fv δ).bind fun r2 => match r2.dat with
      | some d => .ok (.oT [(ks, d)])
      | none => .no
    | none => .no
  | _ => .no
theorem e_dispT (hu : X.A.units + 1 < cLine) (hk : E_ X G W kx fk) (hv : E_ X G W vx fv) : E_ X G W (.Dict [some kx] [vx] pos) (fDispT fk fv) := DE.imp (de_dispT hu hk hv) fun δ P PX q => Tr.sat_of (Tr.sat_bind.mp q) fun r qr => by
  split at qr
  · rename_i ds
    split at qr
    · rename_i ks e
      refine ⟨ds, ks, rfl, e, Tr.sat_of (Tr.sat_bind.mp qr) fun r2 q2 => ?_⟩
      split at q2
      · rename_i d e2; exact ⟨d, e2, q2⟩
      · exact q2.elim
    · exact qr.elim
  · exact qr.elim
end
end FW
set_option Elab.async false
set_option linter.all false
set_option maxRecDepth 100000
set_option maxHeartbeats 4000000
namespace FW
open PySem PySem.Spec L2 DW
/-! ### statements -/
inductive Fl where
  | nx (δ : DEnv) | rt (r : R) | bk (δ : DEnv) | ct (δ : DEnv)
abbrev FS := DEnv → Tr Fl
def Fl.at (E : DEnds) : Fl → Prop
  | .nx δ => E.nx δ
  | .rt r => E.rt r
  | .bk δ => E.bk δ
  | .ct δ => E.ct δ
def wS (K : PySem.W.Frag) (f : FS) : WS := fun E δ => (f δ).sat (Fl.at E) fun x => E.ex (toX K x)
def sNx : FS := fun δ => .ok (.nx δ)
def sBk : FS := fun δ => .ok (.bk δ)
def sCt : FS := fun δ => .ok (.ct δ)
def sSq (s t : FS) : FS := fun δ => (s δ).bind fun o => match o with
  | .nx δ' => t δ'
  | o => .ok o
def sIfF (t : FT) (a b : FS) : FS := fun δ => (t δ).bind fun c => match c with
  | true => a δ
  | false => b δ
def sSetF (i : Nat) (f : FE) : FS := fun δ => (f δ).bind fun r => match r.sv with
  | some v => .ok (.nx (δ.set i (some v)))
  | none => .no
def sAsgF (f : FE) (g : FG) : FS := fun δ => (f δ).bind fun r => match r.dat with
  | some d => (calm (g d δ)).bind fun δ' => .ok (.nx δ')
  | none => .no
def sAugF (i : Nat) (g : G2) (f : FE) : FS := fun δ => match slotD δ i with
  | some s0 => (f δ).bind fun r => (g s0.read r).bind fun r' => match r'.sv with
    | some v => .ok (.nx (δ.set i (some v)))
    | none => .no
  | none => .no
def sDropF (f : FE) : FS := fun δ => (f δ).bind fun _ => .ok (.nx δ)
def sRetF (f : FE) : FS := fun δ => (f δ).bind fun r => .ok (.rt r)
def sRetVF (i : Nat) : FS := fun δ => match slotD δ i with
  | some s => .ok (.rt s.rO)
  | none => .no
def sFrzF (i : Nat) (s : FS) : FS := fun δ => match slotD δ i with
  | some (.ol xs) => s (δ.set i (some (.im (.list xs))))
  | _ => .no
def sAppF (i : Nat) (f : FE) : FS := fun δ => match slotD δ i with
  | some (.ol xs) => (f δ).bind fun r => match r.dat with
    | some d => gd (decide (xs.length < 16777216)) (.ok (.nx (δ.set i (some (.ol (xs ++ [d]))))))
    | none => .no
  | _ => .no
def sExtF (i : Nat) (f : FE) : FS := fun δ => match slotD δ i with
  | some (.ol xs) => (f δ).bind fun r => match r.own with
    | some ys => gd (szOk (xs.length + ys.length)) (.ok (.nx (δ.set i (some (.ol (xs ++ ys))))))
    | none => .no
  | _ => .no
def sPopF (j : Nat) (g : FG) : FS := fun δ => match slotD δ j with
  | some (.ol xs) => (ofO xs[xs.length - 1]?).bind fun d => (calm (g d (δ.set j (some (.ol xs.dropLast))))).bind fun δ' => .ok (.nx δ')
  | _ => .no
def sPop0F (j : Nat) (g : FG) : FS := fun δ => match slotD δ j with
  | some (.ol (d :: xs)) => (calm (g d (δ.set j (some (.ol xs))))).bind fun δ' => .ok (.nx δ')
  | _ => .no
def sPutF (i : Nat) (fk fv : FE) : FS := fun δ => match slotD δ i with
  | some s0 => (fv δ).bind fun r => match r.dat with
    | some d => (fk δ).bind fun r2 => match r2 with
      | .im kd => (putF s0 kd d).bind fun s1 => .ok (.nx (δ.set i (some s1)))
      | _ => .no
    | none => .no
  | none => .no
def forF (g : FG) (b : FS) : List D → FS
  | [], δ => .ok (.nx δ)
  | d :: ds, δ => (calm (g d δ)).bind fun δ1 => (b δ1).bind fun o => match o with
    | .nx δ' => forF g b ds δ'
    | .ct δ' => forF g b ds δ'
    | .bk δ' => .ok (.nx δ')
    | .rt r => .ok (.rt r)
def sForF (i : FI) (g : FG) (b : FS) : FS := fun δ => (i δ).bind fun items => forF g b items δ
/-- n turns at most -/
def whF (t : FT) (b : FS) : Nat → FS
  | 0, _ => .no
  | n + 1, δ => (t δ).bind fun c => match c with
    | false => .ok (.nx δ)
    | true => (b δ).bind fun o => match o with
      | .nx δ' => whF t b n δ'
      | .ct δ' => whF t b n δ'
      | .bk δ' => .ok (.nx δ')
      | .rt r => .ok (.rt r)
def fuel : Nat := 1000000
def sWhF (t : FT) (b : FS) : FS := whF t b fuel
def sRaise0F (x : Str) : FS := fun _ => .ex ⟨x, []⟩
section
variable {X : Cx} {G : Gd} {W : WX} {st : Bool} {tg iter e a b c o : Expr} {es rest : List Expr} {fe fa fb fk fv : FE} {ft fu : FT} {faa : FA} {fi : FI} {fg : FG} {pos p np : Pos} {ts us : List Nat} {s : Stmt} {ss body orelse suite : List Stmt} {ws ws' : WS} {f g : FS} {K : PySem.W.Frag}
abbrev S_ (X : Cx) (G : Gd) (W : WX) (s : Stmt) (f : FS) : Prop := DS X G W s (wS X.K f)
abbrev Ss_ (X : Cx) (G : Gd) (W : WX) (s : List Stmt) (f : FS) : Prop := DSs X G W s (wS X.K f)
theorem DS.imp (h : DS X G W s ws) (i : ∀ E δ, ws' E δ → ws E δ) : DS X G W s ws' := PS.imp h fun D σ H ⟨F, δ, E, S, p, k⟩ => ⟨F, δ, E, S, i _ _ p, k⟩
theorem DSs.imp (h : DSs X G W ss ws) (i : ∀ E δ, ws' E δ → ws E δ) : DSs X G W ss ws' := PSs.imp h fun D σ H ⟨F, δ, E, S, p, k⟩ => ⟨F, δ, E, S, i _ _ p, k⟩
theorem s_nil : Ss_ X G W [] sNx := DSs.imp ds_nil fun E δ q => q
theorem s_cons (h : S_ X G W s f) (hs : Ss_ X G W ss g) : Ss_ X G W (s :: ss) (sSq f g) := DSs.imp (ds_cons h hs) fun E δ q => Tr.sat_of (Tr.sat_bind.mp q) fun o qo => by
  cases o <;> exact qo
theorem s_one (h : S_ X G W s f) : Ss_ X G W [s] f := ds_one h
theorem s_pass : S_ X G W (.Pass pos) sNx := DS.imp ds_pass fun E δ q => q
theorem s_break : S_ X G W (.Break pos) sBk := DS.imp ds_break fun E δ q => q
theorem s_continue : S_ X G W (.Continue pos) sCt := DS.imp ds_continue fun E δ q => q
theorem s_if (hc : T_ X G W c ft) (ha : Ss_ X G W body f) (hb : Ss_ X G W orelse g) : S_ X G W (.If c body orelse pos) (sIfF ft f g) := DS.imp (ds_if hc ha hb) fun E δ q => Tr.sat_of (Tr.sat_bind.mp q) fun b qb => by
  cases b <;> exact qb
theorem set_imp {i : Nat} {E : DEnds} {δ : DEnv} (q : wS K (sSetF i fe) E δ) : sSet i (wE K fe) E δ := Tr.sat_of (Tr.sat_bind.mp q) fun r qr => by
  split at qr
  · rename_i v e; exact ⟨v, e, qr⟩
  · exact qr.elim
theorem s_set {i : Nat} (h : PS X s (tAsg (dT X.K G W (wE X.K fe)) (gName i))) : S_ X G W s (sSetF i fe) := DS.imp (ds_set h) fun E δ q => set_imp q
theorem s_asg (h : PS X s (tAsg (dT X.K G W (wE X.K fe)) (dGT X.K G ts (wG fg)))) : S_ X G W s (sAsgF fe fg) := DS.imp (ds_asg h) fun E δ q => Tr.sat_of (Tr.sat_bind.mp q) fun r qr => by
  split at qr
  · rename_i d e; exact ⟨d, e, calm_sat (Tr.sat_bind.mp qr)⟩
  · exact qr.elim
theorem s_aug {i : Nat} {r : R2} {kk : KO} {gg : G2} (hk : OpD X.K r kk) (hg : KG kk gg) (h : PS X s (tAug i (dT X.K G W (wE X.K fe)) r)) : S_ X G W s (sAugF i gg fe) := DS.imp (ds_aug hk h) fun E δ q => by
  unfold wS sAugF at q
  cases e : slotD δ i with
  | none => rw [e] at q; exact q.elim
  | some s0 =>
    rw [e] at q
    refine ⟨s0, slotD_eq e, Tr.sat_of (Tr.sat_bind.mp q) fun r qr => hg _ _ _ _ (Tr.sat_of (Tr.sat_bind.mp qr) fun r' q' => ?_)⟩
    split at q'
    · rename_i v e2; exact ⟨v, e2, q'⟩
    · exact q'.elim
theorem s_expr (h : PS X s (tDrop (dT X.K G W (wE X.K fe)))) : S_ X G W s (sDropF fe) := DS.imp (ds_expr h) fun E δ q => Tr.sat_of (Tr.sat_bind.mp q) fun r qr => qr
theorem s_ret (h : PS X s (tRet (dT X.K G W (wE X.K fe)))) : S_ X G W s (sRetF fe) := DS.imp (ds_ret h) fun E δ q => Tr.sat_of (Tr.sat_bind.mp q) fun r qr => qr
theorem s_retV {i : Nat} (h : PS X s (tRet (tVar i))) : S_ X G W s (sRetVF i) := DS.imp (ds_retV h) fun E δ q => by
  unfold wS sRetVF at q
  cases e : slotD δ i with
  | none => rw [e] at q; exact q.elim
  | some s0 => rw [e] at q; exact ⟨s0, slotD_eq e, by cases s0 <;> exact q⟩
theorem s_freeze {i : Nat} (h : S_ X G W s f) : S_ X G W s (sFrzF i f) := DS.imp (ds_freeze (i := i) h) fun E δ q => by
  unfold wS sFrzF at q
  split at q
  · rename_i xs e; exact ⟨xs, slotD_eq e, q⟩
  · exact q.elim
theorem s_append {i : Nat} (h : PS X s (tDrop (tBM X.K "list" rAppend (tVar i) (tCons (dT X.K G W (wE X.K fe)) tNil)))) : S_ X G W s (sAppF i fe) := DS.imp (ds_append h) fun E δ q => by
  unfold wS sAppF at q
  split at q
  · rename_i xs e
    refine ⟨xs, slotD_eq e, Tr.sat_of (Tr.sat_bind.mp q) fun r qr => ?_⟩
    split at qr
    · rename_i d e2; obtain ⟨h1, h2⟩ := gd_sat qr; exact ⟨d, e2, by rw [sizeLine_eq]; exact of_decide_eq_true h1, h2⟩
    · exact qr.elim
  · exact q.elim
theorem s_extend {i : Nat} (h : PS X s (tDrop (tBM X.K "list" rExtend (tVar i) (tCons (dT X.K G W (wE X.K fe)) tNil)))) : S_ X G W s (sExtF i fe) := DS.imp (ds_extend h) fun E δ q => by
  unfold wS sExtF at q
  split at q
  · rename_i xs e
    refine ⟨xs, slotD_eq e, Tr.sat_of (Tr.sat_bind.mp q) fun r qr => ?_⟩
    split at qr
    · rename_i ys e2; obtain ⟨h1, h2⟩ := gd_sat qr; exact ⟨ys, e2, szOk_ok h1, h2⟩
    · exact qr.elim
  · exact q.elim
theorem s_pop {j : Nat} (h : PS X s (tAsg (tBM0 X.K "list" rPop (tVar j)) (dGT X.K G ts (wG fg)))) : S_ X G W s (sPopF j fg) := DS.imp (ds_pop h) fun E δ q => by
  unfold wS sPopF at q
  split at q
  · rename_i xs e
    obtain ⟨d, e2, p⟩ := ofO_sat (Tr.sat_bind.mp q)
    exact ⟨xs, d, slotD_eq e, e2, calm_sat (Tr.sat_bind.mp p)⟩
  · exact q.elim
theorem s_pop0 {j : Nat} (h : PS X s (tAsg (tBM X.K "list" rPopAt (tVar j) (tCons (tC (.int 0)) tNil)) (dGT X.K G ts (wG fg)))) : S_ X G W s (sPop0F j fg) := DS.imp (ds_pop0 h) fun E δ q => by
  unfold wS sPop0F at q
  split at q
  · rename_i d xs e; exact ⟨d, xs, slotD_eq e, calm_sat (Tr.sat_bind.mp q)⟩
  · exact q.elim
theorem s_put {i : Nat} (h : PS X s (sDPut (tVar i) (dT X.K G W (wE X.K fk)) (dT X.K G W (wE X.K fe)))) : S_ X G W s (sPutF i fk fe) := DS.imp (ds_put h) fun E δ q => by
  unfold wS sPutF at q
  split at q
  · rename_i s0 e
    refine ⟨s0, slotD_eq e, Tr.sat_of (Tr.sat_bind.mp q) fun r qr => ?_⟩
    split at qr
    · rename_i d e2
      refine ⟨d, e2, Tr.sat_of (Tr.sat_bind.mp qr) fun r2 q2 => ?_⟩
      split at q2
      · rename_i kd; exact ⟨kd, rfl, putF_ok (Tr.sat_bind.mp q2)⟩
      · exact q2.elim
    · exact qr.elim
  · exact q.elim
theorem forF_ok {E : DEnds} : ∀ (items : List D) (δ : DEnv), (forF fg f items δ).sat (Fl.at E) (fun x => E.ex (toX K x)) → forGo (wG fg) (wS K f) E items δ
  | [], δ, h => h
  | d :: ds, δ, h => by
    refine Tr.sat_of (calm_sat (Tr.sat_bind.mp h)) fun δ1 q => ?_
    refine Tr.sat_of (Tr.sat_bind.mp q) fun o qo => ?_
    cases o with
    | nx δ' => exact forF_ok ds δ' qo
    | ct δ' => exact forF_ok ds δ' qo
    | bk δ' => exact qo
    | rt r => exact qo
theorem s_for (h : PS X s (tFor (dTI X.K G W true (wI X.K fi)) (dGT X.K G ts (wG fg)) (dTS X.K G W (wS X.K f)))) : S_ X G W s (sForF fi fg f) := DS.imp (ds_for h) fun E δ q => Tr.sat_of (Tr.sat_bind.mp q) fun items qi => forF_ok items δ qi
theorem s_while (h : PS X s (tWhile (dTT X.K G W (wT X.K ft)) (dTS X.K G W (wS X.K f)))) : S_ X G W s (sWhF ft f) := DS.imp (ds_while h) fun E δ q => by
  refine ⟨fun m δ => (whF ft f m δ).sat (Fl.at E) (fun x => E.ex (toX X.K x)), ⟨fuel, q⟩, fun m δ hm => ?_⟩
  cases m with
  | zero => exact hm.elim
  | succ m =>
    refine Tr.sat_of (Tr.sat_bind.mp hm) fun c qc => ?_
    cases c with
    | false => exact qc
    | true =>
      rw [if_pos rfl]
      refine Tr.sat_of (Tr.sat_bind.mp qc) fun o qo => ?_
      cases o with
      | nx δ' => exact ⟨m, Nat.lt_succ_self _, qo⟩
      | ct δ' => exact ⟨m, Nat.lt_succ_self _, qo⟩
      | bk δ' => exact qo
      | rt r => exact qo
theorem s_raise0 {x : Str} (hc : X.calm = true) (tk : Takes X W) (he : PMk X e (fun _ H Q => Q (.ref (He.ga X.K x)) none H)) : S_ X G W (.Raise (some e) none pos) (sRaise0F x) := DS.imp (ds_raise0 hc tk he) fun E δ q => q
/-! ### x = [.. for ..] on one line -/
section
variable {scope : Scope} {own : List (Str × Nat)} {elt : Expr} {y : Str} {py spos : Pos}
theorem s_setLc {i : Nat} (hc : X.calm = true) (hN : X.N.Nodup) (hy : X.N[i]? = some y) (hyl : X.env.scope.names.lookup y = some .local)
    (hsw : swapsWith (.ListComp elt [⟨tg, iter, [], 0⟩] scope pos) (some (.Name y py)) spos.line X.env = pure true) (hi : I_ X G W st tg iter fi) (ok : BlkOk X.N X.env.scope scope own)
    (hg : ∀ (s : Shared) (H : Hp) (C : Addr) (cl : List (Str × Addr)) (fp : List Addr), G_ (X.blk s H scope (compEnvC scope cl C X.env) fp) G ts tg fg)
    (he : ∀ (s : Shared) (H : Hp) (C : Addr) (cl : List (Str × Addr)) (fp : List Addr), E_ (X.blk s H scope (compEnvC scope cl C X.env) fp) G wTrue elt fe)
    (hts : ∀ t ∈ ts, t ∈ own.map (·.2) := by decide) (hs : ∀ x, foldedSetIterable iter X.env x = pure x := by intro _; rfl) : S_ X G W (.Assign [.Name y py] (.ListComp elt [⟨tg, iter, [], 0⟩] scope pos) spos) (sSetF i (fLc fi fg tYes fe (own.map (·.2)))) :=
  DS.imp (ds_setLc hc hN hy hyl hsw hi ok hg he hts hs) fun E δ q => by
    have q1 := set_imp q
    exact lc_imp (K := X.K) (P := fun r => ∃ v, r.sv = some v ∧ E.nx (δ.set i (some v))) q1
theorem s_setLcIf {i : Nat} (hc : X.calm = true) (hN : X.N.Nodup) (hy : X.N[i]? = some y) (hyl : X.env.scope.names.lookup y = some .local)
    (hsw : swapsWith (.ListComp elt [⟨tg, iter, [c], 0⟩] scope pos) (some (.Name y py)) spos.line X.env = pure true) (hi : I_ X G W st tg iter fi) (ok : BlkOk X.N X.env.scope scope own)
    (hg : ∀ (s : Shared) (H : Hp) (C : Addr) (cl : List (Str × Addr)) (fp : List Addr), G_ (X.blk s H scope (compEnvC scope cl C X.env) fp) G ts tg fg)
    (ht : ∀ (s : Shared) (H : Hp) (C : Addr) (cl : List (Str × Addr)) (fp : List Addr), T_ (X.blk s H scope (compEnvC scope cl C X.env) fp) G wTrue c ft)
    (he : ∀ (s : Shared) (H : Hp) (C : Addr) (cl : List (Str × Addr)) (fp : List Addr), E_ (X.blk s H scope (compEnvC scope cl C X.env) fp) G wTrue elt fe)
    (hts : ∀ t ∈ ts, t ∈ own.map (·.2) := by decide) (hs : ∀ x, foldedSetIterable iter X.env x = pure x := by intro _; rfl) : S_ X G W (.Assign [.Name y py] (.ListComp elt [⟨tg, iter, [c], 0⟩] scope pos) spos) (sSetF i (fLc fi fg ft fe (own.map (·.2)))) :=
  DS.imp (ds_setLcIf hc hN hy hyl hsw hi ok hg ht he hts hs) fun E δ q => by
    have q1 := set_imp q
    exact lc_imp (K := X.K) (P := fun r => ∃ v, r.sv = some v ∧ E.nx (δ.set i (some v))) q1
end
/-! ### defs, calls -/
abbrev FD := List R → Tr R
/-- what a def of that body gives -/
def fnF (N : List Str) (b : FS) : FD := fun rs => (b (startD N rs)).bind fun o => match o with
  | .nx _ => .ok (.im .none)
  | .rt r => gd r.given (.ok r)
  | _ => .no
/-- a def's promise -/
def SF (K : PySem.W.Frag) (F : FD) : DSpec := fun rs P PX => (F rs).sat P fun x => PX (toX K x)
theorem sem_F {N : List Str} {b : FS} {rs : List R} {P : R → Prop} {PX : DX → Prop} (h : SF K (fnF N b) rs P PX) : wS K b (fnEnds P PX) (startD N rs) := Tr.sat_of (Tr.sat_bind.mp h) fun o qo => by
  cases o with
  | nx δ => exact qo
  | rt r => exact gd_sat qo
  | bk δ => exact qo.elim
  | ct δ => exact qo.elim
def fCallF (n : Nat) (F : FD) (fa : FA) : FE := fun δ => (fa δ).bind fun rs => gd (rs.all plainR && decide (rs.length = n)) (F rs)
theorem callF_imp {n : Nat} {F : FD} {δ : DEnv} {P : R → Prop} {PX : DX → Prop} (q : wE K (fCallF n F faa) δ P PX) : wCallF n (SF K F) (wA K faa) δ P PX := Tr.sat_of (Tr.sat_bind.mp q) fun rs qr => by
  obtain ⟨h1, h2⟩ := gd_sat qr
  rw [Bool.and_eq_true] at h1
  exact ⟨h1.1, of_decide_eq_true h1.2, Tr.sat_of h2 fun r p _ => p⟩
/-- the promise of a def that lets nothing out -/
def SC (K : PySem.W.Frag) (F : FD) : DSpec := fun rs P _ => (F rs).sat P fun _ => False
def fCallC (n : Nat) (F : FD) (fa : FA) : FE := fun δ => (fa δ).bind fun rs => gd (rs.all plainR && decide (rs.length = n)) (calm (F rs))
theorem callC_imp {n : Nat} {F : FD} {δ : DEnv} {P : R → Prop} {PX : DX → Prop} (q : wE K (fCallC n F faa) δ P PX) : wCallF n (SC K F) (wA K faa) δ P PX := Tr.sat_of (Tr.sat_bind.mp q) fun rs qr => by
  obtain ⟨h1, h2⟩ := gd_sat qr
  rw [Bool.and_eq_true] at h1
  exact ⟨h1.1, of_decide_eq_true h1.2, Tr.sat_of (calm_sat h2) fun r p _ => p⟩
theorem e_c {x : Str} {n k j : Nat} {F : FD} (c : C8.Cal X.prog X.w X.K X.mg X.base k x (dSp X.K n (SC X.K F)) []) (hr : Room j X.A) (hk : k ≤ j) (hg : Gl X x) (ha : A_ X G W (e :: es) faa)
    (hdb : (x == ("__debug__" : Str)) = false := by decide) (he : starEach (e :: es) X.env = (false, eval e X.env) :: starEach es X.env := by rfl) (hpl : (backTo pos (starEach es X.env)).any (·.1) = false := by rfl) : E_ X G W (.Call (.Name x p) (e :: es) [] pos) (fCallC n F faa) :=
  DE.imp (de_c c (fun _ _ _ _ h => h) hr hk hg ha hdb he hpl) fun δ P PX q => callC_imp q
theorem e_cX {x : Str} {n k j : Nat} {F : FD} (c : CalX X.prog X.w X.K X.mg X.base k x (dSp X.K n (SF X.K F))) (tk : Takes X W) (hr : Room j X.A) (hk : k ≤ j) (hg : Gl X x) (ha : A_ X G W (e :: es) faa)
    (hdb : (x == ("__debug__" : Str)) = false := by decide) (he : starEach (e :: es) X.env = (false, eval e X.env) :: starEach es X.env := by rfl) (hpl : (backTo pos (starEach es X.env)).any (·.1) = false := by rfl) : E_ X G W (.Call (.Name x p) (e :: es) [] pos) (fCallF n F faa) :=
  DE.imp (de_cX c tk hr hk hg ha hdb he hpl) fun δ P PX q => callF_imp q
end
/-- the drawer hands out -/
def F_take : FD := fun rs => match rs with
  | [.drw, .im (.int m)] => .draw m fun r => .ok (.im (.int r))
  | _ => .no
end FW
set_option Elab.async false
set_option linter.all false
set_option maxRecDepth 100000
set_option maxHeartbeats 4000000
/-! an own exception class over an own class over ValueError, whose __init__ says super().__init__(f"..{code}") and keeps code -/
namespace DX
open PySem PySem.W PySem.Calls PyProof.Rows PySem.HandSPX
def iA (p1 p2 : Pos) : Arguments := { posonlyargs := [], args := [{ arg := "self", annotation := none, pos := p1 }, { arg := "code", annotation := none, pos := p2 }], vararg := none, kwonlyargs := [], kw_defaults := [], kwarg := none, defaults := [] }
def iMsg (q5 q6 q7 q8 : Pos) : Expr := .JoinedStr [.Constant (.str "refused: ") 0 q5, .FormattedValue (.Name "code" q6) (-1) none q7] q8
def iB (q1 q2 q3 q4 q5 q6 q7 q8 r1 r2 r3 r4 : Pos) : List Stmt := [.Expr (.Call (.Attribute (.Call (.Name "super" q1) [] [] q2) "__init__" q3) [iMsg q5 q6 q7 q8] [] q4) q4, .Assign [.Attribute (.Name "self" r1) "code" r2] (.Name "code" r3) r4]
def iS : Scope := { kind := .function, names := [(PySem.Str.ofString "self", .local), (PySem.Str.ofString "code", .local), (PySem.Str.ofString "__class__", .free), (PySem.Str.ofString "super", .globalImplicit)], isGenerator := false, isCoroutine := false, more := [] }
/-- what the written part says of the class, at C, and of its __init__, at fI -/
structure IeTxt (prog : Program) (K : Frag) (mg : Str → Option Value) (x q0 : Str) (C fI : Addr) : Prop where
  gC : mg x = some (.ref C)
  cls : ∃ nm q N bs bm sn sub ab col dd k0 k1 k2 k3 k5, K.lookup C = some (excClassObj nm q C N bs bm true sn sub ab col dd k0 k1 k2 k3 k5 "ValueError.__new__") ∧ refsVE bm = true
  sa : findIn K (.ref C) "__setattr__" = some (some (.builtin "object.__setattr__"))
  ga : findIn K (.ref C) "__getattribute__" = some (some (.builtin "BaseException.__getattribute__"))
  gg : findIn K (.ref C) "__getattr__" = some none
  noN : findIn K (.ref C) "code" = some none
  iC : findIn K (.ref C) "__init__" = some (some (.ref fI))
  tC : typeIn K (.ref fI) = some (.type "function")
  kC : keepIn K (.ref C) = true
  exC : subIn K (.ref C) (.type "BaseException") = some true
  veC : subIn K (.ref C) (.type "ValueError") = some true
  tyC : typeIn K (.ref C) = some (.type "type")
  hdC : hasDictIn K C = true
  own : mroIn K C (.ref C) = some true
  along : ks_superIn K C C "__init__" = some (some (.builtin "ValueError.__init__"))
  opq : nsIn K cStatics "thirdparty.any" = some none
  sup : mg "super" = none
  top : (prog.main.scope.names.lookup ("super" : Str)).isSome = false
  fn : ∃ (oc : Value) (od : Option Addr) (doc pm : Value) (an : Option Addr) (cda : Addr) (ct : Value) (cc : Addr) (osl : Array (Option Value)) (p1 p2 q1 q2 q3 q4 q5 q6 q7 q8 r1 r2 r3 r4 : Pos),
    K.lookup fI = some ⟨oc, od, .func (fnX "__init__" q0 (iA p1 p2) (iB q1 q2 q3 q4 q5 q6 q7 q8 r1 r2 r3 r4) iS [("__class__", cc)] .none .none doc pm an (.ref cda) ct), osl⟩ ∧ codeIn K (.ref cda) q0 = true ∧ (q3.endLine == q4.line) = true ∧
    (∃ (ccl : Value) (cdd : Option Addr) (vs : Array Value) (ccs : Array (Option Value)) (file : Str) (tf : Tok), K.lookup cda = some ⟨ccl, cdd, .fields vs, ccs⟩ ∧ vs[2]? = some (.str file tf) ∧ ((prog.main.file : Str) == file) = true) ∧
    ∃ (cl : Value) (cld : Option Addr) (csl : Array (Option Value)), K.lookup cc = some ⟨cl, cld, .cell (some (.ref C)), csl⟩
/-- what __init__ leaves of a fresh exception at x -/
structure InitEnd (h h' : Heap) (x C dx t1 : Addr) (v : Value) : Prop where
  keep : ∀ b o, b ≠ x → h.get? b = some o → h'.get? b = some o
  obj : h'.get? x = some { cls := .ref C, dict := some dx, data := .fields #[.ref t1, .none, .none, .none, .bool false, .none] }
  dbig : h.objs.size ≤ dx
  dne : dx ≠ x
  ns : h'.Ns1 dx (fun y => if y = "code" then some v else none)
structure OwnMade (h h' : Heap) (e C d : Addr) (v : Value) : Prop where
  keep : ∀ b o, h.get? b = some o → h'.get? b = some o
  new : h.objs.size ≤ e
  obj : ∃ oe vs, h'.get? e = some oe ∧ oe.cls = .ref C ∧ oe.dict = some d ∧ oe.data = .fields vs ∧ vs[1]? = some .none
  dbig : h.objs.size ≤ d
  dne : d ≠ e
  ns : h'.Ns1 d (fun y => if y = "code" then some v else none)
theorem one_size (v : Value) : [v].length ≤ sizeLine := by
  rw [sizeLine_eq]
  exact (by decide : 1 ≤ 16777216)
section
variable {prog : Program} {w : World} {A : Around} {E : Value → Shared → Prop} {h : Heap} {g : Array GenState} {d : Drawn} {t : Nat} {os : OsState}
variable {nm q : Str} {C N : Addr} {bs bm : List Value} {hdct : Bool} {sn : List Str} {sub : List Value} {ab : Bool} {col : Option Bool} {dd : Option Addr} {k0 k1 k2 k3 k5 : Option Value}
/-- super().__init__(..) called -/
theorem call_mw {u e t0 : Addr} {rest : List Value} {Q : Value → Shared → Prop}
    (hC : h.get? C = some (excClassObj nm q C N bs bm hdct sn sub ab col dd k0 k1 k2 k3 k5 "ValueError.__new__")) (he : h.get? e = some (HandSPX.excO C t0)) (hu : h.get? u = some (kxs_mw "ValueError.__init__" e)) (hrest : rest.length ≤ sizeLine)
    (hq : ∀ h' t1, (∀ b o, b ≠ e → h.get? b = some o → h'.get? b = some o) → h'.get? e = some (HandSPX.excO C t1) → Q .none ⟨h', g, d, t, os⟩) :
    wpAny (model prog w) A (call (.ref u) rest) Q E ⟨h, g, d, t, os⟩ := by
  refine wpAny_call (codeAny_of_tree ?_)
  show wpAny _ A.in1 (callAny (.ref u) ⟨rest, []⟩) _ _ _
  simp only [callAny]
  refine wpAny_bind (wpAny_load hu ?_)
  simp only [kxs_mw, show (Value.type "method-wrapper" == Value.type "method" || Value.type "method-wrapper" == Value.type "builtin_function_or_method" || Value.type "method-wrapper" == Value.type "method-wrapper") = true by decide, if_true]
  refine W.KFB.if_so (by decide) ?_
  refine wpAny_bind (PySem.ESX.check_bound F.excBase_ValueError hC he rfl ?_)
  refine wpAny_bind (wpAny_pure (wpAny_pure ?_))
  refine ⟨Code.quiet_builtin _ (by decide +kernel), codeAny_builtin F.excBase_ValueError.initEntry ?_⟩
  rw [Around.under_plainId F.excBase_ValueError.init.plain _]
  wp_walk
  refine hq _ h.objs.size (fun b o hb ho => ?_) ?_
  · rw [Heap.get?_update_other _ _ (Ne.symm hb)]
    exact Heap.get?_push_of_some _ ho
  · rw [Heap.get?_update_self _ (Heap.get?_push_of_some _ he) rfl]
    rfl
end
end DX
namespace DX
open PySem PySem.W PySem.Calls PyProof.Rows PySem.HandSPX
theorem ldX {M : Model} {s : Shared} {fd : FuncData} {L a : Addr} {m : Str → Option Value} {x : Str} {pos : Pos} {v : Value} {Q : Value → Shared → Prop} {A : Around} {E : Value → Shared → Prop} (hn : s.heap.Ns L m) (hv : m x = some v) (h : Q v s)
    (hk : fd.scope.kind = .function) (hl : (callEnv fd L a).kindOf x = some .local) (hd : (x == ("__debug__" : Str)) = false := by decide) :
    wpAny M A (eval (.Name x pos) (callEnv fd L a)) Q E s := wpAny_Name (wpAny_loadName_local hk hl hn hv h) hd
section
variable {prog : Program} {w : World} {A : Around} {E : Value → Shared → Prop} {R : Result → Shared → Prop} {s : Shared} {K : Frag} {mg : Str → Option Value} {C fI : Addr} {xn q0 : Str}
theorem mc_eval {o : Expr} {name : Str} {apos pos : Pos} {env : Env} {e : Expr} (hl : (apos.endLine == pos.line) = true) (ha : starEach [e] env = [(false, eval e env)]) : eval (.Call (.Attribute o name apos) [e] [] pos) env = (do
      let ov ← attributeBase o name env (eval o env)
      standAt apos.atName
      let (f, first) ← holding [ov] (getMethod ov name (do return (← importBound o env).getD true))
      callWith pos f first (backTo pos (starEach [e] env)) []) := by
  rw [arm_eval_Call]
  have hform : methodCallForm ([e].length + ([] : List Keyword).length) (backTo pos (starEach [e] env)) (backToKw pos (keywordEach [] env)) = true := by
    rw [ha]; rfl
  unfold methodCall
  rw [hform]
  unfold methodCallPos calleeOf
  rw [hl]
  rfl
theorem ie_init (T : IeTxt prog K mg xn q0 C fI) {x t0 : Addr} {z : Str} {tk0 : Tok} (X : K.In s.heap) (hg : s.heap.Ns mainGlobals mg) (hb : ∃ mb, s.heap.Ns builtinsNs mb ∧ ∀ y : Str, y ≠ "__name__" → mb y = bootBuiltins y) (hlim : s.heap.NoLimit)
    (hx : s.heap.get? x = some (excO C t0)) (hnx : K.lookup x = none) (hxC : x ≠ C) (hz : z.length ≤ 1000) (hroom : A.depth < recursionLimit)
    (hq : ∀ h' tk dx t1, InitEnd s.heap h' x C dx t1 (.str z tk0) → R (.ok (.ret .none)) { s with heap := h', toks := tk }) :
    codeAny (model prog w) A (.call (.ref fI) ⟨[.ref x, .str z tk0], []⟩) R s := by
  obtain ⟨oc, od, doc, pm, an, cda, ct, cc, osl, p1, p2, q1, q2, q3, q4, q5, q6, q7, q8, r1, r2, r3, r4, ho, hcd, hline, ⟨ccl, cdd, vs, ccs, file, tf, hcode, hvs, hfile⟩, cl, cld, csl, hcell⟩ := T.fn
  obtain ⟨nm, q, N, bs, bm, sn, sub, ab, col, dd, k0, k1, k2, k3, k5, hC, hbm⟩ := T.cls
  have hcl : clsIn K C = some { name := nm, bases := bs, mro := .ref C :: bm, ns := N, qualname := q, hasDict := true, slotNames := sn, subclasses := sub, abstract := ab, collection := col, hasDel := false } := by unfold clsIn; rw [hC] <;> rfl
  obtain ⟨mb, hb1, hb2⟩ := hb
  let fd : FuncData := fnX "__init__" q0 (iA p1 p2) (iB q1 q2 q3 q4 q5 q6 q7 q8 r1 r2 r3 r4) iS [("__class__", cc)] .none .none doc pm an (.ref cda) ct
  refine ks_codeAny_call_defAt (fd := fd) (body := iB q1 q2 q3 q4 q5 q6 q7 q8 r1 r2 r3 r4) (binds := [("self", .ref x), ("code", .str z tk0)]) hroom (X _ _ ho) rfl hlim (codeRec_of X hcd) rfl (BindsTo.of_eq (by first | rfl | with_unfolding_all rfl)) (fun y hy => (by decide : ∀ y ∈ iS.names, y.2 ≠ .cell) y hy) (fun y hy => by simp only [List.mem_cons, List.not_mem_nil, or_false] at hy; rcases hy with rfl | rfl <;> rfl) (fun h₁ hn k => ?_) rfl rfl rfl
  have hxL : s.heap.objs.size ≠ x := Nat.ne_of_gt (Heap.lt_size hx)
  have X₁ : K.In h₁ := X.keeps k
  have hx₁ := k _ _ hx
  have hCh := X₁ _ _ hC
  have e1 : (fun x_1 => ([((("self" : Str)), Value.ref x), (("code" : Str), Value.str z tk0)] : List (Str × Value)).reverse.lookup x_1) "self" = some (.ref x) := by first | rfl | decide +kernel | kernel_rfl
  have e2 : (fun x_1 => ([((("self" : Str)), Value.ref x), (("code" : Str), Value.str z tk0)] : List (Str × Value)).reverse.lookup x_1) "code" = some (.str z tk0) := by first | rfl | decide +kernel | kernel_rfl
  refine ks_wpAt_execs_cons (ks_wpAt_Expr_any (ks_wpAt_MethodCall ?_ (mc_eval hline (by rfl))))
  refine ks_wpAt_super_base (by first | rfl | decide +kernel) (by first | rfl | decide +kernel) rfl rfl (X₁ _ _ ho) rfl (ar := { arg := "self", annotation := none, pos := p1 }) rfl rfl (X₁ _ _ hcode) rfl hvs hfile T.top ?_
  refine ks_loadName_global rfl (by first | rfl | decide +kernel) (loadGlobal_builtin (hg.keeps k) T.sup (hb1.keeps k) ((hb2 _ (by decide)).trans (by decide +kernel)) ⟨rfl, ?_⟩)
  refine wpAny_loadName_free rfl (by first | rfl | decide +kernel) rfl ⟨_, X₁ _ _ hcell, rfl⟩ ?_
  refine wpAny_loadName_local rfl (by first | rfl | decide +kernel) hn e1 ?_
  refine ks_wpAny_isType_cls hCh rfl ⟨rfl, ?_⟩
  refine ks_wpAny_call_super hCh rfl hx₁ rfl (fun c e => by cases e) (looks_mroIn X₁ T.own) (fun h₂ e k₂ => ?_)
  have X₂ := X₁.keeps k₂
  have hx₂ := k₂ _ _ hx₁
  have I₂ : InstAt h₂ x (excO C t0) C none := ⟨hx₂, rfl, rfl, trivial⟩
  refine kxs_getMethod kxs_ValueError e (looks_opaque X₂ T.opq) (l₀ := .ref C :: bm) ?_ rfl X₂ ?_ (I₂.type.andThen (looks_subIn X₂ T.veC)) hxC rfl ?_
  · exact fun A Q E s k q => wpAny_bind ((looks_clsIn X₂ hcl) A _ E s k (wpAny_pure q))
  · have := T.along
    unfold ks_superIn at this
    rw [hcl] at this
    exact this
  have k₃ : ∀ b o, h₂.get? b = some o → (h₂.push (kxs_mw "ValueError.__init__" x)).get? b = some o := fun b o e => Heap.get?_push_of_some _ e
  have hu : (h₂.push (kxs_mw "ValueError.__init__" x)).get? h₂.objs.size = some (kxs_mw "ValueError.__init__" x) := Heap.get?_push_at rfl rfl
  have n₃ := (hn.keeps k₂).keeps k₃
  refine kxs_callWith (i := "ValueError.__init__") (x := x) (by rfl) ?_
  refine evalArgs_plain (spliced_cons ?_)
  rw [if_neg Bool.false_ne_true]
  have e2' : ∀ {Q : Value → Shared → Prop} {E : Value → Shared → Prop} {tk : Nat}, Q (.str z tk0) ⟨h₂.push (kxs_mw "ValueError.__init__" x), s.gens, s.drawn, tk, s.os⟩ → wpAny (model prog w) (A.deeper (callEnv fd s.heap.objs.size fI)) (eval (.Name "code" q6) (callEnv fd s.heap.objs.size fI)) Q E ⟨h₂.push (kxs_mw "ValueError.__init__" x), s.gens, s.drawn, tk, s.os⟩ := fun {Q E tk} hQ => ldX (s := ⟨h₂.push (kxs_mw "ValueError.__init__" x), s.gens, s.drawn, tk, s.os⟩) n₃ e2 hQ rfl (by first | rfl | decide +kernel)
  have hz1 : z.length ≤ sizeLine := by rw [sizeLine_eq]; omega
  have hz2 : ((Str.empty ++ ("refused: " : Str)) ++ z).length ≤ sizeLine := by
    rw [sizeLine_eq]
    show ((Str.empty ++ ("refused: " : Str)).cps ++ z.cps).size ≤ _
    rw [Array.size_append]
    have a1 : (Str.empty ++ ("refused: " : Str)).cps.size = 9 := by rfl
    have a2 : z.cps.size ≤ 1000 := hz
    omega
  refine wpAny_JoinedStr (wpAny_Constant_str ⟨_, _, rfl, by decide +kernel, ?_⟩)
  refine wpAny_FormattedValue_plain (e2' ?_)
  have fin : ∀ (tk tk' : Nat) (y : Value), ∀ msg : Value, wpAny (model prog w) (A.deeper (callEnv fd s.heap.objs.size fI)) (call (.ref h₂.objs.size) [msg]) (fun _ s' => PySem.wpAt (model prog w) (A.deeper (callEnv fd s.heap.objs.size fI)) (Code.func (iB q1 q2 q3 q4 q5 q6 q7 q8 r1 r2 r3 r4) (callEnv fd s.heap.objs.size fI))
      (execs [Stmt.Assign [(Expr.Name (Str.ofString "self") r1).Attribute (Str.ofString "code") r2] (Expr.Name (Str.ofString "code") r3) r4] (callEnv fd s.heap.objs.size fI))
      (fun f s' => R (.ok (.ret (match f with | .ret v => v | _ => .none))) s')
      (fun e s' => wpAny (model prog w) (A.deeper (callEnv fd s.heap.objs.size fI)) (leaving (callEnv fd s.heap.objs.size fI) e) (fun _ s'' => R (.error e) s'') (fun e' s'' => R (.error e') s'') s') s')
      (fun e s' => wpAny (model prog w) (A.deeper (callEnv fd s.heap.objs.size fI)) (leaving (callEnv fd s.heap.objs.size fI) e) (fun _ s'' => R (.error e) s'') (fun e' s'' => R (.error e') s'') s') ⟨h₂.push (kxs_mw "ValueError.__init__" x), s.gens, s.drawn, tk, s.os⟩ := by
    intro tk tk' y msg
    refine call_mw (k₃ _ _ (k₂ _ _ hCh)) (k₃ _ _ hx₂) hu (one_size msg) fun h₄ t1 k₄ hx₄ => ?_
    have X₄ : K.In h₄ := fun a o eK => k₄ a o (fun zz => by rw [zz, hnx] at eK; cases eK) (k₃ _ _ (X₂ _ _ eK))
    have n₄ : h₄.Ns s.heap.objs.size (fun x_1 => ([(("self" : Str), Value.ref x), (("code" : Str), Value.str z tk0)] : List (Str × Value)).reverse.lookup x_1) := by
      obtain ⟨oL, es, ep, hL, r⟩ := n₃
      exact ⟨oL, es, ep, k₄ _ _ hxL hL, r⟩
    refine ks_wpAt_execs_cons (wpAt_of_wpAny (plainObj_wpAny_Assign_Attribute ?_))
    refine ldX n₄ e2 (ldX n₄ e1 ?_ rfl (by first | rfl | decide +kernel)) rfl (by first | rfl | decide +kernel)
    refine set_plain X₄ (ox := excO C t1) (od := none) ⟨hx₄, rfl, rfl, trivial⟩ T.sa ?_
    refine exc_osa X₄ hx₄ hcl (show refsVE (.ref C :: bm) = true from hbm) rfl T.noN (fun h₅ tk₅ dx k₅ dn dne hx₅ hn₅ => ?_)
    show PySem.wpAt _ _ _ (execs _ _) _ _ _
    refine wpAt_of_wpAny (wpAny_execs_nil (hq h₅ tk₅ dx t1 ⟨fun b o hb e => k₅ b o hb (k₄ b o hb (k₃ b o (k₂ b o (k b o e)))), hx₅, ?_, dne, hn₅⟩))
    have a1 : s.heap.objs.size < h₄.objs.size := n₄.lt
    have dn' : h₄.objs.size ≤ dx := dn
    omega
  refine wpAny_formatField_str ⟨_, _, rfl, ?_, ?_⟩ ⟨_, _, rfl, ?_, ?_⟩ hz1
  · exact hz2
  · exact ⟨hz2, spliced_nil ⟨hu, fin _ 0 .none _⟩⟩
  · exact hz2
  · exact ⟨hz2, spliced_nil ⟨hu, fin _ 0 .none _⟩⟩
theorem ie_made (T : IeTxt prog K mg xn q0 C fI) {z : Str} {tk0 : Tok} (X : K.In s.heap) (hg : s.heap.Ns mainGlobals mg) (hb : ∃ mb, s.heap.Ns builtinsNs mb ∧ ∀ y : Str, y ≠ "__name__" → mb y = bootBuiltins y) (hlim : s.heap.NoLimit) (hz : z.length ≤ 1000) (hroom : A.depth + 1 < recursionLimit)
    (hq : ∀ h' tk e d, OwnMade s.heap h' e C d (.str z tk0) → R (.ok (.ret (.ref e))) { s with heap := h', toks := tk }) :
    codeAny (model prog w) A (.call (.ref C) ⟨[.str z tk0], []⟩) R s := by
  obtain ⟨nm, q, N, bs, bm, sn, sub, ab, col, dd, k0, k1, k2, k3, k5, hC, hbm⟩ := T.cls
  obtain ⟨hp, g, dr, tk, os⟩ := s
  obtain ⟨mb, hb1, hb2⟩ := hb
  have k : ∀ b o, hp.get? b = some o → ((hp.push (kdv_tup [.str z tk0])).push (excO C hp.objs.size)).get? b = some o := fun b o e => Heap.get?_push_of_some _ (Heap.get?_push_of_some _ e)
  have hget : ((hp.push (kdv_tup [.str z tk0])).push (excO C hp.objs.size)).get? (hp.objs.size + 1) = some (excO C hp.objs.size) := by heap_get
  have hnx : K.lookup (hp.objs.size + 1) = none := by
    cases e : K.lookup (hp.objs.size + 1) with
    | none => rfl
    | some o =>
      have z : hp.get? (hp.objs.size + 1) = some o := X _ _ e
      exact absurd (Nat.lt_of_succ_lt (Heap.lt_size z)) (Nat.lt_irrefl _)
  have hxC : hp.objs.size + 1 ≠ C := fun e => by rw [e, hC] at hnx; cases hnx
  refine call_own F.excBase_ValueError (fun X => refsVE_contains X bm hbm) (X _ _ hC) (looks_findIn X T.iC) (fun self => bind_fn X self T.tC) (one_size _) ?_
  refine ie_init (s := ⟨(hp.push (kdv_tup [.str z tk0])).push (excO C hp.objs.size), g, dr, tk, os⟩) T (X.keeps k) (hg.keeps k) ⟨mb, hb1.keeps k, hb2⟩ (hlim.keeps k) hget hnx hxC hz ?_ fun h' tk' dx t1 ⟨k', hx, dn, dne, hns⟩ => ?_
  · show A.depth + 1 < recursionLimit
    exact hroom
  · have old : ∀ b o, hp.get? b = some o → h'.get? b = some o := fun b o e => k' b o (Nat.ne_of_lt (Nat.lt_succ_of_lt (Heap.lt_size e))) (k b o e)
    have zz : hp.objs.size + 1 + 1 ≤ dx := by
      first
        | (simpa only [Heap.size_push] using dn)
        | exact dn
        | (have q := dn; rw [Heap.size_push, Heap.size_push] at q; exact q)
    exact ⟨rfl, hq h' tk' (hp.objs.size + 1) dx ⟨old, Nat.le_succ _, ⟨_, _, hx, rfl, rfl, rfl, rfl⟩, Nat.le_trans (Nat.le_trans (Nat.le_succ _) (Nat.le_succ _)) zz, dne, hns⟩⟩
end
end DX
namespace DX
open PySem PySem.Spec PyProof.Rows L2
theorem relO_code {v : V} {v' : Value} (r : RelV v v') (f : Str) : RelO (List.lookup f [(("code" : Str), v)]) (if f = "code" then some v' else none) := by
  by_cases hw : f = "code"
  · subst hw
    rw [if_pos rfl]
    have q : List.lookup ("code" : Str) [(("code" : Str), v)] = some v := by simp [List.lookup]
    rw [q]
    exact r
  · rw [if_neg hw]
    have qw : (f == ("code" : Str)) = false := by simpa using hw
    have q2 : List.lookup f [(("code" : Str), v)] = none := by simp [List.lookup, qw]
    rw [q2]
    trivial
section
variable {X : Cx} {C fI : Addr} {xn q0 : Str}
/-- x(e), e a text -/
def tMkIe (C : Addr) (ta : TA) : L2.St → Hp → XK → Prop := fun σ H Q => ta σ H fun vs H1 => ∃ z : Str, vs = [.str z] ∧ z.length ≤ 1000 ∧ ∀ d, H1 d = none → Q (.ref C) (some d) (upd H1 d (.xd [(("code" : Str), .str z)]))
theorem pmk_ie {a : Expr} {ta : TA} {p pos : Pos} {k : Nat} (T : IeTxt X.prog X.K X.mg xn q0 C fI) (hr : Room k X.A) (ha : PA X [a] ta) (hg : Gl X xn) (hdb : (xn == ("__debug__" : Str)) = false)
    (he : starEach (a :: []) X.env = (false, eval a X.env) :: starEach [] X.env := by rfl) (hpl : (backTo pos (starEach [] X.env)).any (·.1) = false := by rfl) :
    PMk X (.Call (.Name xn p) [a] [] pos) (tMkIe C ta) := by
  intro pins s σ H Q I h
  refine wpAny_Call_Name_kw (ld_glob I hg T.gC ?_ hdb)
  refine PySem.W.callWith_K (h₀ := X.base) I.ok.mod.kin T.kC (thn (ha.run pos pins s σ H _ I h) fun us s1 hh => ?_) he hpl
  obtain ⟨vs, H1, I1, r1, z, ev, hz, q1⟩ := hh
  subst ev
  refine ⟨I1.kIn, ?_⟩
  cases r1 with
  | cons rv rn =>
    rename_i v' us'
    cases rn
    obtain ⟨tk0, rfl⟩ := id rv
    show wpAny _ _ (call (.ref C) [Value.str z tk0]) _ _ _
    have hlim := I1.nolimit
    have hgl : s1.heap.Ns mainGlobals X.mg := I1.mod.glob.keeps I1.bk
    have hbl : ∃ mb, s1.heap.Ns builtinsNs mb ∧ ∀ y : Str, y ≠ "__name__" → mb y = bootBuiltins y := by
      obtain ⟨mb, h1, h2⟩ := I1.mod.blt
      exact ⟨mb, h1.keeps I1.bk, h2⟩
    obtain ⟨hp, g, dr, tk, os⟩ := s1
    refine wpAny_call (ie_made T I1.kIn hgl (by obtain ⟨mb, h1, h2⟩ := hbl; exact ⟨mb, h1, fun y hy => h2 _ hy⟩) hlim hz (by have := hr.dp; omega) fun h' tk' e d M => ?_)
    show MkP X pins σ Q (.ref e) ⟨h', g, dr, tk', os⟩
    obtain ⟨oe, fv, hoe, hc, hd, hdat, h1⟩ := M.obj
    have hns := M.ns
    obtain ⟨G', g1, g2⟩ := restrict h' fun b => decide (b ≠ e)
    have gk : ∀ b, b ≠ e → G'.get? b = h'.get? b := fun b hb => g1 b (decide_eq_true hb)
    have ge : G'.get? e = none := g2 e (by simp)
    have old : ∀ b o, hp.get? b = some o → G'.get? b = some o := fun b o q => (gk b (Nat.ne_of_lt (Nat.lt_of_lt_of_le (Heap.lt_size q) M.new))).trans (M.keep b o q)
    have ob : ObjOk X.prog X.w (upd H1 d (.xd [(("code" : Str), .str z)])) G' d (.xd [(("code" : Str), .str z)]) :=
      ⟨_, hns.at (fun o q => (gk d M.dne).trans q), fun f => relO_code (v := .str z) ⟨_, rfl⟩ f⟩
    have J : Inv X pins σ (upd H1 d (.xd [(("code" : Str), .str z)])) ⟨G', g, dr, tk', os⟩ := I1.laid (t' := tk') old M.dbig ob
    refine ⟨e, oe, fv, ⟨G', g, dr, tk', os⟩, _, .ref C, some d, rfl, J, fun b o q => ?_, ge, hoe, ⟨hc, hd⟩, hdat, h1, ?_, rfl, I1.bare, raises_own T.exC T.tyC, q1 d (I1.hok.fresh M.dbig)⟩
    · by_cases hb : b = e
      · have q' : G'.get? b = some o := q
        rw [hb, ge] at q'; cases q'
      · exact (gk b hb).symm.trans q
    · rw [upd_ne (Ne.symm M.dne)]
      exact I1.hok.fresh M.new
end
end DX
set_option Elab.async false
set_option linter.all false
set_option maxRecDepth 100000
set_option maxHeartbeats 4000000
namespace FW
open PySem PySem.Spec L2 DW
section
variable {α : Type}
def Tr.catch : Tr α → (Xn → Tr α) → Tr α
  | .ok a, _ => .ok a
  | .ex x, h => h x
  | .no, _ => .no
  | .draw m k, h => .draw m fun r => (k r).catch h
theorem Tr.sat_catch {t : Tr α} {h : Xn → Tr α} {P : α → Prop} {PX : Xn → Prop} : (t.catch h).sat P PX ↔ t.sat P fun x => (h x).sat P PX := by
  induction t with
  | ok a => exact Iff.rfl
  | ex x => exact Iff.rfl
  | no => exact Iff.rfl
  | draw m k ih => exact ⟨fun ⟨h1, h2, h⟩ => ⟨h1, h2, fun r r0 r1 => (ih r).mp (h r r0 r1)⟩, fun ⟨h1, h2, h⟩ => ⟨h1, h2, fun r r0 r1 => (ih r).mpr (h r r0 r1)⟩⟩
end
/-- what is known of the classes: (raised, caught) -/
abbrev Tab := List (Str × Bool)
def sRaise1F (x : Str) (f : FE) : FS := fun δ => (f δ).bind fun r => match r with
  | .im (.str s) => gd (decide (s.length ≤ 1000)) (.ex ⟨x, [("code", .str s)]⟩)
  | _ => .no
/-- try: b, except: return d -/
def sTryCF (tab : Tab) (b : FS) (d : D) : FS := fun δ => (b δ).catch fun x => match tab.lookup x.nm with
  | some true => .ok (.rt (.im d))
  | some false => .ex x
  | none => .no
/-- try: b, except .. as e: return e.f -/
def sTryAF (tab : Tab) (c f : Str) (b : FS) : FS := fun δ => (b δ).catch fun x => match tab.lookup x.nm with
  | some true => gd (decide (x.nm = c)) (match x.fs.lookup f with
    | some d => .ok (.rt (.im d))
    | none => .no)
  | some false => .ex x
  | none => .no
section
variable {X : Cx} {G : Gd} {W : WX} {e a : Expr} {fe : FE} {pos p np pos' rp p1 p2 : Pos} {s : Stmt} {body : List Stmt} {ws : WS} {f : FS} {x n fl : Str} {i : Nat}
theorem s_raise1 {q0 : Str} {fI : Addr} {k : Nat} (hc : X.calm = true) (T : DX.IeTxt X.prog X.K X.mg x q0 (He.ga X.K x) fI) (hr : Room k X.A) (tk : Takes X W) (ha : E_ X G W a fe) (hg : Gl X x) (hdb : (x == ("__debug__" : Str)) = false := by decide)
    (he : starEach (a :: []) X.env = (false, eval a X.env) :: starEach [] X.env := by rfl) (hpl : (backTo p (starEach [] X.env)).any (·.1) = false := by rfl) : S_ X G W (.Raise (some (.Call (.Name x np) [a] [] p)) none pos) (sRaise1F x fe) :=
  PS.imp (ps_raise hc tk (DX.pmk_ie T hr (pa_cons ha pa_nil (by exact he)) hg hdb he hpl)) fun D σ H ⟨F, δ, E, S, q, k⟩ => by
    refine ⟨F, δ, _, _, S, Tr.sat_bind.mp q, fun v F1 H1 r x1 q1 p1 => ?_, k.xok S⟩
    show ∃ z : Str, [v] = [V.str z] ∧ z.length ≤ 1000 ∧ ∀ d, H1 d = none → W (.ref (He.ga X.K x)) (some d) σ (upd H1 d (.xd [(("code" : Str), .str z)]))
    split at p1
    · rename_i z
      obtain ⟨h1, h2⟩ := gd_sat p1
      cases q1
      refine ⟨z, rfl, of_decide_eq_true h1, fun d hd => ?_⟩
      refine k.ex _ F1 _ (.ref (He.ga X.K x)) (some d) σ ((S.ext.trans x1).trans (x1.stay.own hd)) ⟨rfl, fun _ => ⟨d, [(("code" : Str), .str z)], rfl, upd_same, .cons ⟨rfl, .str z⟩ .nil⟩⟩ h2
    · exact p1.elim
/-- the table is right -/
def TabOk (K : PySem.W.Frag) (tab : Tab) (c : Str) : Prop := ∀ y b, tab.lookup y = some b → PySem.W.exmOne K (.ref (He.ga K y)) (.ref (He.ga K c)) = some b
theorem TabOk.nil {K : PySem.W.Frag} {c : Str} : TabOk K [] c := fun y b h => by cases h
theorem TabOk.cons {K : PySem.W.Frag} {tab : Tab} {c z : Str} {bz : Bool} (h1 : PySem.W.exmOne K (.ref (He.ga K z)) (.ref (He.ga K c)) = some bz) (h : TabOk K tab c) : TabOk K ((z, bz) :: tab) c := fun y b hy => by
  rw [List.lookup_cons] at hy
  by_cases e : y = z
  · subst e
    rw [beq_self_eq_true] at hy
    cases hy
    exact h1
  · have : (y == z) = false := by simpa using e
    rw [this] at hy
    exact h y b hy
theorem s_tryC {tab : Tab} {d : D} {C : Addr} {e : Expr} (hC : C = He.ga X.K x) (ht : TabOk X.K tab x) (hs : X.stack = X.env :: X.outer) (hf : X.env.frame = some X.env.locals) (hc : Names X x (.ref C)) (tk : Takes X W)
    (hb : ∀ (W' : WX) (pn : List (Addr × Obj)) (xe : Value → Shared → Prop), Takes (X.tr pn xe) W' → Ss_ (X.tr pn xe) G W' body f) (hsu : ∀ (a : Addr) (pn : List (Addr × Obj)), DSs (X.suite a pn) G wTrue [.Return (some e) rp] (wS X.K (sRetF (fC d)))) :
    S_ X G W (.Try body [.ExceptHandler (some (.Name x np)) none [.Return (some e) rp] pos'] [] [] pos) (sTryCF tab f d) :=
  DS.imp (ds_try (ws := wS X.K f) (wss := wS X.K (sRetF (fC d))) (m := fun D => PySem.W.exmOne X.K (.ref D) (.ref C)) (fun _ => rfl) hs hf hc tk (fun W' pn xe tk' => hb W' pn xe tk') hsu) fun E δ q => by
    refine Tr.sat_mono (Tr.sat_catch.mp q) (fun o qo => by cases o <;> exact qo) fun y hy => ?_
    split at hy
    · rename_i e1
      refine .inl ⟨by rw [hC]; exact ht _ _ e1, fun n => hy⟩
    · rename_i e1
      exact .inr ⟨by rw [hC]; exact ht _ _ e1, hy⟩
    · exact hy.elim
theorem lookup_rep {K : PySem.W.Frag} {F : Hp} {fl : Str} : ∀ {vs : List (Str × V)} {ds : List (Str × D)} {d : D}, Paired (fun (p : Str × V) (q : Str × D) => p.1 = q.1 ∧ RepD K F p.2 q.2) vs ds → ds.lookup fl = some d → ∃ v, vs.lookup fl = some v ∧ RepD K F v d
  | _, _, _, .nil, h => by cases h
  | _, _, d, @Paired.cons _ _ _ v0 d0 vs ds hp t, h => by
    obtain ⟨n1, v1⟩ := v0
    obtain ⟨n2, d2⟩ := d0
    obtain ⟨e1, r1⟩ := hp
    have e1' : n1 = n2 := e1
    subst e1'
    rw [List.lookup_cons] at h ⊢
    cases hb : (fl == n1) with
    | true => rw [hb] at h; cases h; exact ⟨v1, rfl, r1⟩
    | false => rw [hb] at h; exact lookup_rep t h
theorem pe_len {t : TE} (h : PE X e t) : PE X e (fun σ H Q => σ.length = X.N.length → t σ H Q) := ⟨fun pins s σ H Q I q => h.run pins s σ H Q I (q I.len)⟩
theorem s_tryA {tab : Tab} {C : Addr} {i : Nat} (hC : C = He.ga X.K x) (ht : TabOk X.K tab x) (T : XfC X.K C) (hno : PySem.W.findIn X.K (.ref C) fl = some none) (hs : X.stack = X.env :: X.outer) (hf : X.env.frame = some X.env.locals) (hN : X.N.Nodup) (hi : X.N[i]? = some n) (hln : X.env.kindOf n = some .local) (hc : Names X x (.ref C)) (tk : Takes X W)
    (hb : ∀ (W' : WX) (pn : List (Addr × Obj)) (xe : Value → Shared → Prop), Takes (X.tr pn xe) W' → Ss_ (X.tr pn xe) G W' body f) (hv : ∀ (a : Addr) (pn : List (Addr × Obj)), PE (X.suite a pn) (.Name n p1) (tVar i))
    (hbase : attributeBase (.Name n p1) fl X.env (eval (.Name n p1) X.env) = eval (.Name n p1) X.env := by rfl) :
    S_ X G W (.Try body [.ExceptHandler (some (.Name x np)) (some n) [.Return (some (.Attribute (.Name n p1) fl p2)) rp] pos'] [] [] pos) (sTryAF tab x fl f) :=
  PS.imp (ps_try_as (tb := fun W' => dTS X.K G W' (wS X.K f)) (ts := fun a cls d => tRet (tXf a cls d C fl (fun σ H Q => σ.length = X.N.length → tVar i σ H Q))) (Wout := W) hs hf hN hi hln hc tk (fun W' pn xe tk' _ => hb W' pn xe tk')
    (fun a oe cls d pn hz hfd => pss_one (ps_ret (pe_xf T hno hz hfd (pe_len (hv a _)) hbase)))) fun D σ H ⟨F, δ, E, S, q, k⟩ => by
    refine ⟨F, δ, { E with ex := fun y => (PySem.W.exmOne X.K (.ref y.C) (.ref C) = some true ∧ y.C = C ∧ ∃ d, y.fs.lookup fl = some d ∧ E.rt (.im d)) ∨ (PySem.W.exmOne X.K (.ref y.C) (.ref C) = some false ∧ E.ex y) }, S, ?_, k.nx, k.bk, k.ct, k.rt, fun x' F' H' cls d σ' xt rx px => ?_⟩
    · refine Tr.sat_mono (Tr.sat_catch.mp q) (fun o qo => by cases o <;> exact qo) fun y hy => ?_
      split at hy
      · rename_i e1
        obtain ⟨h1, h2⟩ := gd_sat hy
        refine .inl ⟨by rw [hC]; exact ht _ _ e1, by rw [hC]; show He.ga X.K y.nm = _; rw [of_decide_eq_true h1], ?_⟩
        split at h2
        · rename_i d e2; exact ⟨d, e2, h2⟩
        · exact h2.elim
      · rename_i e1
        exact .inr ⟨by rw [hC]; exact ht _ _ e1, hy⟩
      · exact hy.elim
    · obtain ⟨rfl, rx2⟩ := rx
      rcases px with ⟨em, eC, d', ed, pr⟩ | ⟨em, px⟩
      · refine ⟨true, em, fun _ a ha => ?_, (fun z => nomatch z)⟩
        have ne : x'.fs ≠ [] := fun z => by rw [z] at ed; cases ed
        obtain ⟨dd, vs, rfl, hdd, pp⟩ := rx2 ne
        obtain ⟨v, ev, rv⟩ := lookup_rep pp ed
        show _ → _
        intro hl
        have hil : i < σ'.length := by
          rw [List.length_set] at hl
          rw [hl]
          exact (List.getElem?_eq_some_iff.mp hi).1
        exact ⟨.ref a, List.getElem?_set_self hil, rfl, by rw [eC], dd, vs, v, rfl, hdd, ev, k.rt v F' H' (.im d') xt rv pr⟩
      · exact ⟨false, em, (fun z => nomatch z), fun _ => k.ex x' F' H' _ d σ' xt ⟨rfl, rx2⟩ px⟩
end
end FW
set_option Elab.async false
set_option linter.all false
set_option maxRecDepth 100000
set_option maxHeartbeats 4000000
/-! the head's facts of an own exception class with super().__init__ -/
namespace FW
open PySem PySem.Spec L2 DW PySem.W
structure IeD where
  x : Str
  q0 : Str
  params : Arguments
  body : List Stmt
  scope : Scope
def clsB (K : Frag) (C : Addr) : Bool := match K.lookup C with
  | some ⟨.type "type", _, .cls cd, sl⟩ => (match cd.mro, sl.toList with
    | .ref C' :: bm, [_, _, _, _, some (.builtin n), _] => C' == C && (n == "ValueError.__new__" && (!cd.hasDel && (cd.hasDict && HandSPX.refsVE bm)))
    | _, _ => false)
  | _ => false
theorem clsB_ok {K : Frag} {C : Addr} (h : clsB K C = true) : ∃ nm q N bs bm sn sub ab col dd k0 k1 k2 k3 k5, K.lookup C = some (excClassObj nm q C N bs bm true sn sub ab col dd k0 k1 k2 k3 k5 "ValueError.__new__") ∧ HandSPX.refsVE bm = true := by
  unfold clsB at h
  split at h
  · rename_i dd cd sl ho
    split at h
    · rename_i C' bm k0 k1 k2 k3 n k5 hm hs
      simp only [Bool.and_eq_true, beq_iff_eq, Bool.not_eq_true'] at h
      obtain ⟨e1, e2, e3, e4, e5⟩ := h
      obtain ⟨nm, bs, mro, ns, qn, hd, sn, sb, ab, col, del⟩ := cd
      dsimp only at hm e3 e4
      subst hm e3 e4 e1 e2
      have e6 : sl = #[k0, k1, k2, k3, some (.builtin "ValueError.__new__"), k5] := by
        obtain ⟨l⟩ := sl
        have : l = [k0, k1, k2, k3, some (.builtin "ValueError.__new__"), k5] := hs
        rw [this]
      subst e6
      exact ⟨nm, qn, ns, bs, bm, sn, sb, ab, col, dd, k0, k1, k2, k3, k5, ho, e5⟩
    · cases h
  · cases h
abbrev FnE : Type := Option (Str × Str × Arguments × FuncBody × Scope × Addr × Addr)
def fnE (K : Frag) (fI : Addr) : FnE := match K.lookup fI with
  | some ⟨_, _, .func fd, _⟩ => some (fd.name, fd.qualname, fd.params, fd.body, fd.scope, fd.globals, fd.builtins)
  | _ => none
def fnB (file : Str) (K : Frag) (C fI : Addr) (q0 : Str) : Bool := match K.lookup fI with
  | some ⟨_, _, .func fd, _⟩ => (match fd.closure with
      | [(n, cc)] => n == "__class__" && (match K.lookup cc with
        | some ⟨_, _, .cell (some (.ref c)), _⟩ => c == C
        | _ => false)
      | _ => false) && ((match fd.defaults with
      | .none => true
      | _ => false) && ((match fd.kwdefaults with
      | .none => true
      | _ => false) && (match fd.code with
      | .ref cda => codeIn K (.ref cda) q0 && (match K.lookup cda with
        | some ⟨_, _, .fields vs, _⟩ => (match (vs[2]? : Option Value) with
          | some (Value.str f _) => file == f
          | _ => false)
        | _ => false)
      | _ => false)))
  | _ => false
def ieB (file : Str) (K : Frag) (d : IeD) : Bool :=
  let C := He.ga K d.x
  let fI := He.ma K C "__init__"
  clsB K C && (He.eqO (findIn K (.ref C) "__setattr__") (some (some (.builtin "object.__setattr__"))) && (He.eqO (findIn K (.ref C) "__getattribute__") (some (some (.builtin "BaseException.__getattribute__"))) &&
    (He.eqO (findIn K (.ref C) "__getattr__") (some none) && (He.eqO (findIn K (.ref C) "code") (some none) && (He.eqO (findIn K (.ref C) "__init__") (some (some (.ref fI))) && (decide (typeIn K (.ref fI) = some (.type "function")) &&
    (keepIn K (.ref C) && (decide (subIn K (.ref C) (.type "BaseException") = some true) && (decide (subIn K (.ref C) (.type "ValueError") = some true) && (decide (typeIn K (.ref C) = some (.type "type")) && (hasDictIn K C &&
    (decide (mroIn K C (.ref C) = some true) && (He.eqO (ks_superIn K C C "__init__") (some (some (.builtin "ValueError.__init__"))) && (He.eqO (nsIn K cStatics "thirdparty.any") (some none) && fnB file K C fI d.q0))))))))))))))
def ieObs (file : Str) (K : Frag) (d : IeD) : Bool × FnE := (ieB file K d, fnE K (He.ma K (He.ga K d.x) "__init__"))
def ieVal (d : IeD) : Bool × FnE := (true, some ("__init__", d.q0, d.params, .stmts d.body, d.scope, mainGlobals, builtinsNs))
theorem ie_txt {prog : Program} {K : Frag} {mg : Str → Option Value} {d : IeD} {p1 p2 q1 q2 q3 q4 q5 q6 q7 q8 r1 r2 r3 r4 : Pos} (h : ieObs prog.main.file K d = ieVal d) (hp : d.params = DX.iA p1 p2) (hb : d.body = DX.iB q1 q2 q3 q4 q5 q6 q7 q8 r1 r2 r3 r4) (hs : d.scope = DX.iS)
    (hl : (q3.endLine == q4.line) = true) (hg : mg d.x = some (.ref (He.ga K d.x))) (hsup : mg "super" = none) (htop : (prog.main.scope.names.lookup ("super" : Str)).isSome = false) : DX.IeTxt prog K mg d.x d.q0 (He.ga K d.x) (He.ma K (He.ga K d.x) "__init__") := by
  have h1 : ieB prog.main.file K d = true := congrArg (fun z : Bool × FnE => z.1) h
  have h2 : fnE K (He.ma K (He.ga K d.x) "__init__") = some (("__init__" : Str), d.q0, d.params, FuncBody.stmts d.body, d.scope, mainGlobals, builtinsNs) := congrArg (fun z : Bool × FnE => z.2) h
  unfold ieB at h1
  simp only [Bool.and_eq_true, decide_eq_true_eq] at h1
  obtain ⟨a1, a2, a3, a4, a5, a6, a7, a8, a9, a10, a11, a12, a13, a14, a15, a16⟩ := h1
  refine ⟨hg, clsB_ok a1, He.eqO_ok a2, He.eqO_ok a3, He.eqO_ok a4, He.eqO_ok a5, He.eqO_ok a6, a7, a8, a9, a10, a11, a12, a13, He.eqO_ok a14, He.eqO_ok a15, hsup, htop, ?_⟩
  generalize He.ma K (He.ga K d.x) "__init__" = fI at *
  generalize He.ga K d.x = C at *
  unfold fnE at h2
  unfold fnB at a16
  split at h2
  · rename_i oc od fd osl ho
    rw [ho] at a16
    dsimp only at a16
    obtain ⟨nm, qn, pr, bd, sc, gl, clo, df, kdf, doc, pm, an, cd, ct, bl⟩ := fd
    injection h2 with h2
    simp only [Prod.mk.injEq] at h2
    obtain ⟨e1, e2, e3, e4, e5, e6, e7⟩ := h2
    simp only [Bool.and_eq_true] at a16
    obtain ⟨b1, b2, b3, b4⟩ := a16
    split at b1
    · rename_i n cc
      rw [Bool.and_eq_true, beq_iff_eq] at b1
      obtain ⟨c1, c2⟩ := b1
      split at c2
      · rename_i cl cld c csl hcc
        rw [beq_iff_eq] at c2
        split at b2
        · split at b3
          · split at b4
            · rename_i cda
              rw [Bool.and_eq_true] at b4
              obtain ⟨d1, d2⟩ := b4
              split at d2
              · rename_i ccl cdd vs ccs hcda
                split at d2
                · rename_i f tf hv
                  rw [hp] at e3
                  rw [hb] at e4
                  rw [hs] at e5
                  subst e1 e2 e3 e4 e5 e6 e7 c1 c2
                  exact ⟨oc, od, doc, pm, an, cda, ct, cc, osl, p1, p2, q1, q2, q3, q4, q5, q6, q7, q8, r1, r2, r3, r4, ho, d1, hl, ⟨ccl, cdd, vs, ccs, f, tf, hcda, hv, d2⟩, cl, cld, csl, hcc⟩
                · cases d2
              · cases d2
            · cases b4
          · cases b3
        · cases b2
      · cases c2
    · cases b1
  · cases h2
/-! ### the hook -/
abbrev AlE : Type := He.AlD × List (Bool × FnE)
def asE (g : Addr → Option Obj) (n : Nat) : List Addr := cStatics :: He.asD g n
def obsE (file : Str) (fa : List He.Fa) (fn : List He.DefD) (ies : List IeD) (K : Frag) : AlE := (He.obsD fa fn K, ies.map (ieObs file K))
def valE (fn : List He.DefD) (ies : List IeD) : AlE := (He.valD fn, ies.map ieVal)
def SaysE (file : Str) (fa : List He.Fa) (fn : List He.DefD) (ies : List IeD) (K : Frag) : Prop := obsE file fa fn ies K = valE fn ies
def obsEG (file : Str) (n : Nat) (fa : List He.Fa) (fn : List He.DefD) (ies : List IeD) (g : Addr → Option Obj) : AlE := obsE file fa fn ies (He.frG g (asE g n))
def hookE (file : Str) (n : Nat) (fa : List He.Fa) (fn : List He.DefD) (ies : List IeD) : Hook where
  α := AlE
  obs := fun s => obsEG file n fa fn ies s.heap.get?
  val := fun _ => valE fn ies
  says := fun _ h => ∃ K : Frag, K.In h ∧ SaysE file fa fn ies K
  of := fun _ _ e => ⟨_, He.frG_in, e⟩
  keeps := fun _ _ _ ⟨K, hK, c⟩ k => ⟨K, Frag.In.keeps hK k, c⟩
theorem obsEG_eq {file : Str} {n : Nat} {fa : List He.Fa} {fn : List He.DefD} {ies : List IeD} {g : Addr → Option Obj} {s : Shared} (h : ∀ a, g a = s.heap.get? a) : obsEG file n fa fn ies g = (hookE file n fa fn ies).obs s := by
  have e : g = s.heap.get? := funext h
  rw [e] <;> rfl
theorem SaysE.d {file : Str} {fa : List He.Fa} {fn : List He.DefD} {ies : List IeD} {K : Frag} (c : SaysE file fa fn ies K) : He.SaysD fa fn K := congrArg (fun z : AlE => z.1) c
theorem SaysE.ie {file : Str} {fa : List He.Fa} {fn : List He.DefD} {ies : List IeD} {K : Frag} (c : SaysE file fa fn ies K) (i : Nat) {d : IeD} (h : ies[i]? = some d) : ieObs file K d = ieVal d := by
  have e : ies.map (ieObs file K) = ies.map ieVal := congrArg (fun z : AlE => z.2) c
  have e2 : (ies.map (ieObs file K))[i]? = (ies.map ieVal)[i]? := by rw [e]
  rw [List.getElem?_map, List.getElem?_map, h] at e2
  exact Option.some.inj e2
theorem xf_of {prog : Program} {K : Frag} {mg : Str → Option Value} {x q0 : Str} {C fI : Addr} (T : DX.IeTxt prog K mg x q0 C fI) : XfC K C := ⟨T.ga, T.gg, T.exC, T.hdC⟩
end FW
set_option Elab.async false
set_option linter.all false
set_option maxRecDepth 100000
set_option maxHeartbeats 4000000
namespace FW
open PySem PySem.Spec L2 DW
/-! ### targets that tell which slots they leave -/
section
variable {K : PySem.W.Frag} {G : Gd} {F F1 F2 H H1 H2 : Hp} {σ σ2 : L2.St} {δ δ2 : DEnv}
/-- owned slots are as they were -/
def Own (δ δ' : DEnv) (σ σ' : L2.St) : Prop := ∀ (j : Nat) s, δ'[j]? = some (some s) → s.owned = true → δ[j]? = some (some s) ∧ σ'[j]? = σ[j]?
theorem Own.refl : Own δ δ σ σ := fun j s e o => ⟨e, rfl⟩
theorem Own.trans {δ3 : DEnv} {σ3 : L2.St} (a : Own δ δ2 σ σ2) (b : Own δ2 δ3 σ2 σ3) : Own δ δ3 σ σ3 := fun j s e o => by
  obtain ⟨e1, q1⟩ := b j s e o
  obtain ⟨e2, q2⟩ := a j s e1 o
  exact ⟨e2, q1.trans q2⟩
theorem Own.set {i : Nat} {d : D} {v : Option V} : Own δ (δ.set i (some (.im d))) σ (σ.set i v) := fun j s e o => by
  by_cases h : i = j
  · subst h
    by_cases hl : i < δ.length
    · rw [List.getElem?_set_self hl] at e; cases e; cases o
    · rw [List.getElem?_eq_none (by rw [List.length_set]; omega)] at e; cases e
  · rw [List.getElem?_set_ne h] at e ⊢
    exact ⟨e, rfl⟩
def dGTo (K : PySem.W.Frag) (G : Gd) (ts : List Nat) (wg : WG) : TG := fun v σ H Q => ∃ F δ d P, RepS K G F H σ δ ∧ RepD K F v d ∧ wg d δ P ∧ ∀ σ' δ', Only ts σ σ' → RepS K G F H σ' δ' → Own δ δ' σ σ' → P δ' → Q σ' H
def dGTso (K : PySem.W.Frag) (G : Gd) (ts : List Nat) (wg : WGs) : TGs := fun vs σ H Q => ∃ F δ ds P, RepS K G F H σ δ ∧ RepL K F vs ds ∧ wg ds δ P ∧ ∀ σ' δ', Only ts σ σ' → RepS K G F H σ' δ' → Own δ δ' σ σ' → P δ' → Q σ' H
/-- a state told at two times: the owned slots from the first, the data from the second -/
theorem RepS.mix (S : RepS K G F1 H1 σ δ) (S2 : RepS K G F2 H2 σ2 δ2) (o : Own δ δ2 σ σ2) (x : Ext G.w F1 H1 F H) (sub : Sub F2 F) : RepS K G F H σ2 δ2 where
  ext := S.ext.trans x
  len := S2.len
  slot := fun i s e => by
    obtain ⟨v, e1, r⟩ := S2.slot i s e
    refine ⟨v, e1, ?_⟩
    by_cases h : s.owned = true
    · obtain ⟨e2, q⟩ := o i s e h
      obtain ⟨v', e3, r'⟩ := S.slot i s e2
      rw [q, e3] at e1
      cases e1
      exact r'.ext x
    · cases s with
      | im d => exact RepD.mono sub r
      | drw => exact r
      | _ => exact absurd rfl h
  fresh := S2.fresh
  apart := S2.apart
end
section
variable {X : Cx} {G : Gd} {W : WX} {st : Bool} {tg iter tg1 iter1 e a b c elt kx vx : Expr} {es rest : List Expr} {fe fa fk fv : FE} {ft : FT} {fi fi1 : FI} {fg fg1 : FG} {fgs : FGs} {pos p np : Pos} {ts us : List Nat} {s : Stmt}
abbrev Go_ (X : Cx) (G : Gd) (ts : List Nat) (e : Expr) (f : FG) : Prop := PG X e (dGTo X.K G ts (wG f))
abbrev Gso_ (X : Cx) (G : Gd) (ts : List Nat) (es : List Expr) (f : FGs) : Prop := PGs X es (dGTso X.K G ts (wGs f))
theorem go_name {i : Nat} (h : PG X e (gName i)) : Go_ X G [i] e (gN i) := PG.imp h fun v σ H Q ⟨F, δ, d, P, S, r, p, k⟩ =>
  k _ _ Only.one (S.store (s := .im d) r fun z => nomatch z) Own.set p
theorem gso_nil : Gso_ X G [] [] gsNil := PGs.imp pgs_nil fun vs σ H Q ⟨F, δ, ds, P, S, r, q, k⟩ => by
  cases ds with
  | nil => cases r; exact ⟨rfl, k σ δ Only.refl S Own.refl q⟩
  | cons d r => exact q.elim
theorem gso_cons (h : Go_ X G ts e fg) (hs : Gso_ X G us es fgs) (ha : (assignEach (e :: es) X.env).map (·.2) = assign e X.env :: (assignEach es X.env).map (·.2) := by rfl) : Gso_ X G (ts ++ us) (e :: es) (gsCons fg fgs) :=
  PGs.imp (pgs_cons h hs ha) fun vs σ H Q ⟨F, δ, ds, P, S, r, p, k⟩ => by
    cases ds with
    | nil => exact p.elim
    | cons d rr =>
      cases r with
      | cons a t => exact ⟨_, _, rfl, F, δ, d, _, S, a, Tr.sat_bind.mp p, fun σ1 δ1 o1 S1 w1 p1 => ⟨F, δ1, rr, P, S1, t, p1, fun σ2 δ2 o2 S2 w2 p2 => k σ2 δ2 (o1.app o2) S2 (w1.trans w2) p2⟩⟩
theorem go_tup {n k : Nat} (hc : X.calm = true) (h : Gso_ X G ts es fgs) (hn : (assignEach es X.env).length = n := by rfl) (hst : (assignEach es X.env).findIdx? (·.1) = none := by rfl) : Go_ X G ts (.Tuple es k pos) (gTup n fgs) :=
  PG.imp (pg_tup hc h hn hst) fun v σ H Q ⟨F, δ, d, P, S, r, q, k⟩ => by
    unfold wG gTup at q
    split at q
    · obtain ⟨h1, h2⟩ := gd_sat q
      cases r with
      | tup ha l => exact ⟨_, _, rfl, .inl (.inl (S.ext.le _ _ ha)), by rw [RepL.length l]; exact of_decide_eq_true h1, F, δ, _, P, S, l, h2, k⟩
    · exact q.elim
/-! ### [.. for .. in .. for .. in .. if ..] -/
def lc2F (g1 : FG) (i2 : FI) (g2 : FG) (t : FT) (f : FE) (vs2 : List Nat) (δ0 : DEnv) : List D → List D → Tr (List D)
  | [], acc => .ok acc
  | d :: ds, acc => (calm (g1 d δ0)).bind fun δ1 => (calm (i2 δ1)).bind fun items => (lcF g2 t f (wipeD δ1 vs2) items acc).bind fun acc' => lc2F g1 i2 g2 t f vs2 δ0 ds acc'
def fLc2 (i1 : FI) (g1 : FG) (i2 : FI) (g2 : FG) (t : FT) (f : FE) (vs vs2 : List Nat) : FE := fun δ => (i1 δ).bind fun items => (lc2F g1 i2 g2 t f vs2 (wipeD δ vs) items []).bind fun out => .ok (.ol out)
theorem lc2_of {K : PySem.W.Frag} {ts1 ts2 vs vs2 : List Nat} {tt : TT} {te : TE} (h1 : ∀ t ∈ ts1, t ∈ vs) (h2 : ∀ t ∈ ts2, t ∈ vs2) (ht : ∀ σ H Q, dTT K G wTrue (wT K ft) σ H Q → tt σ H Q) (he : ∀ σ H Q, dT K G wTrue (wE K fe) σ H Q → te σ H Q)
    {σ : L2.St} {H : Hp} {Q : VK} (h : dT K G W (wE K (fLc2 fi fg fi1 fg1 ft fe vs vs2)) σ H Q) : tLc2 (dTI K G W st (wI K fi)) (dGTo K G ts1 (wG fg)) (fun _ H Q => Q true H) (dTI K G wTrue true (wI K fi1)) (dGT K G ts2 (wG fg1)) tt te vs vs2 σ H Q := by
  obtain ⟨F, δ, P, PX, S, q, k, xk⟩ := h
  refine ⟨F, δ, _, PX, S, Tr.sat_bind.mp q, fun J C F1 H1 items x1 c1 dw stc p1 => fun D hD => ?_, xk⟩
  have x1' : Ext G.w F1 H1 F1 (upd H1 D (.lst [])) := x1.stay.own hD
  have nd : ∀ d, G.w = some d → d.a ≠ D := fun d e z => by
    obtain ⟨i, r, c, h, _⟩ := (x1.dr d e).at_
    rw [z, hD] at h; cases h
  have fin : ∀ {acc : List PyData} {avs : List V} {F H : Hp}, Ext G.w F1 H1 F H → H D = some (.lst avs) → F D = none → RepL K F avs acc → P (.ol acc) → Q (.ref D) H := fun {acc avs F' H'} x2 hDl hDf la p => k _ F' H' (.ol acc) (x1.trans x2) ⟨D, avs, rfl, x1.none hD, hDl, hDf, nd, la⟩ p
  refine ⟨fun i m H => m = items.length - i ∧ i ≤ items.length ∧ ∃ F avs acc, Ext G.w F1 H1 F H ∧ H D = some (.lst avs) ∧ F D = none ∧ RepL K F avs acc ∧ (lc2F fg fi1 fg1 ft fe vs2 (wipeD δ vs) (items.drop i) acc).sat (fun out => P (.ol out)) (fun _ => True),
    ⟨_, rfl, Nat.zero_le _, F1, [], [], x1', upd_same, x1.le.none hD, .nil, Tr.sat_mono (Tr.sat_bind.mp p1) (fun _ h => h) fun _ _ => trivial⟩, ?_⟩
  rintro i m H ⟨rfl, hi, F, avs, acc, x2, hDl, hDf, la, go⟩
  obtain ⟨w1, w2, w3⟩ := dw F H (stc.ext c1 x2) x2.stay
  by_cases hlt : i < items.length
  · refine .inr ⟨w1 i hlt, fun H' => i + 1 ≤ items.length ∧ ∃ F avs acc, Ext G.w F1 H1 F H' ∧ H' D = some (.lst avs) ∧ F D = none ∧ RepL K F avs acc ∧ (lc2F fg fi1 fg1 ft fe vs2 (wipeD δ vs) (items.drop (i + 1)) acc).sat (fun out => P (.ol out)) (fun _ => True),
      fun H' n => ⟨items.length - (i + 1), by omega, rfl, n⟩, fun x H' y => ?_⟩
    have hd : items[i]? = some items[i] := List.getElem?_eq_getElem hlt
    have hdrop : items.drop i = items[i] :: items.drop (i + 1) := List.drop_eq_getElem_cons hlt
    rw [hdrop] at go
    obtain ⟨F', x3, rd⟩ := w3 i x H' _ hd y
    have S0 := (S.to x1).wipe vs
    have S' : RepS K G F' H' (L2.wipe σ vs) (wipeD δ vs) := (S.to (x1.trans (x2.trans x3))).wipe vs
    refine ⟨F', wipeD δ vs, _, _, S', rd, calm_sat (Tr.sat_bind.mp go), fun σ2 δ2 o2 S2 own2 p2 => ⟨wipe_only o2 h1, ?_⟩⟩
    show (if true = true then _ else _)
    rw [if_pos rfl]
    obtain ⟨hD', hDf'⟩ := x3.keepN hDl hDf nd
    refine ⟨F', δ2, _, fun _ => False, S2, calm_sat (Tr.sat_bind.mp p2), fun J1 C1 F2 H2 items1 y1 cc1 dw1 stc1 q1 => ?_, xok_true⟩
    have hD2 := y1.keepN hD' hDf' nd
    refine ⟨fun j k H => k = items1.length - j ∧ j ≤ items1.length ∧ ∃ F avs acc, Ext G.w F1 H1 F H ∧ Sub F2 F ∧ H D = some (.lst avs) ∧ F D = none ∧ RepL K F avs acc ∧
      (lcF fg1 ft fe (wipeD δ2 vs2) (items1.drop j) acc).sat (fun acc' => (lc2F fg fi1 fg1 ft fe vs2 (wipeD δ vs) (items.drop (i + 1)) acc').sat (fun out => P (.ol out)) (fun _ => True)) (fun _ => True),
      ⟨_, rfl, Nat.zero_le _, F2, avs, acc, (x2.trans x3).trans y1, Sub.refl, hD2.1, hD2.2, RepL.mono (x3.trans y1).fs la, Tr.sat_mono (Tr.sat_bind.mp q1) (fun _ h => h) fun _ _ => trivial⟩, ?_⟩
    rintro j n H3 ⟨rfl, hj, F3, avs3, acc3, z3, s3, hD3, hDf3, la3, go3⟩
    have cc3 : C1 F3 H3 := by
      unfold StC at stc1
      rw [if_pos rfl] at stc1
      exact stc1 F2 H2 F3 H3 cc1 s3 z3.le
    obtain ⟨v1, v2, v3⟩ := dw1 F3 H3 cc3 z3.stay
    by_cases hlt1 : j < items1.length
    · refine .inr ⟨v1 j hlt1, fun H' => j + 1 ≤ items1.length ∧ ∃ F avs acc, Ext G.w F1 H1 F H' ∧ Sub F2 F ∧ H' D = some (.lst avs) ∧ F D = none ∧ RepL K F avs acc ∧
        (lcF fg1 ft fe (wipeD δ2 vs2) (items1.drop (j + 1)) acc).sat (fun acc' => (lc2F fg fi1 fg1 ft fe vs2 (wipeD δ vs) (items.drop (i + 1)) acc').sat (fun out => P (.ol out)) (fun _ => True)) (fun _ => True),
        fun H' n => ⟨items1.length - (j + 1), by omega, rfl, n⟩, fun x4 H4 y4 => ?_⟩
      have hd1 : items1[j]? = some items1[j] := List.getElem?_eq_getElem hlt1
      have hdrop1 : items1.drop j = items1[j] :: items1.drop (j + 1) := List.drop_eq_getElem_cons hlt1
      rw [hdrop1] at go3
      obtain ⟨F4, x5, rd4⟩ := v3 j x4 H4 _ hd1 y4
      have S4 : RepS K G F4 H4 σ2 δ2 := RepS.mix S0 S2 own2 (z3.trans x5) (y1.fs.trans (s3.trans x5.fs))
      refine ⟨F4, wipeD δ2 vs2, _, _, S4.wipe vs2, rd4, calm_sat (Tr.sat_bind.mp go3), fun σ5 δ5 o5 S5 p5 => ⟨wipe_only o5 h2, ?_⟩⟩
      refine ht _ _ _ ⟨F4, δ5, _, fun _ => False, S5, calm_sat (Tr.sat_bind.mp p5), fun b F6 H6 x6 p6 => ?_, xok_true⟩
      cases b with
      | false =>
        rw [if_neg Bool.false_ne_true]
        have x7 := x5.trans x6
        obtain ⟨h', n'⟩ := x7.keepN hD3 hDf3 nd
        exact ⟨hlt1, F6, avs3, acc3, z3.trans x7, s3.trans x7.fs, h', n', RepL.mono x7.fs la3, p6⟩
      | true =>
        rw [if_pos rfl]
        refine he _ _ _ ⟨F6, δ5, _, fun _ => False, S5.to x6, calm_sat (Tr.sat_bind.mp p6), fun yv F7 H7 r x7 q7 p7 => ?_, xok_true⟩
        split at p7
        · rename_i d' er
          obtain ⟨hz, p8⟩ := gd_sat p7
          obtain ⟨F8, x8, _, rd'⟩ := q7.freeze x7 er
          have x9 := (x5.trans x6).trans x8
          obtain ⟨h', n'⟩ := x9.keepN hD3 hDf3 nd
          refine ⟨avs3, h', by rw [RepL.length la3, sizeLine_eq]; exact of_decide_eq_true hz, hlt1, F8, avs3 ++ [yv], acc3 ++ [d'], (z3.trans x9).write hD h' n' nd, s3.trans x9.fs, upd_same, n', RepL.append (RepL.mono x9.fs la3) (.cons rd' .nil), p8⟩
        · exact p7.elim
    · have hn : j = items1.length := by omega
      subst hn
      rw [List.drop_length] at go3
      exact .inl ⟨v2, hlt, F3, avs3, acc3, z3, hD3, hDf3, la3, go3⟩
  · have hn : i = items.length := by omega
    subst hn
    rw [List.drop_length] at go
    exact .inl ⟨w2, fin x2 hDl hDf la go⟩
section
variable {scope : Scope} {own : List (Str × Nat)} {vs2 : List Nat} {y : Str} {py spos : Pos}
theorem e_lc2 (hc : X.calm = true) (hN : X.N.Nodup) (hi : I_ X G W st tg iter fi) (ok : BlkOk X.N X.env.scope scope own)
    (hg : ∀ (s : Shared) (H : Hp) (C : Addr) (cl : List (Str × Addr)) (fp : List Addr), Go_ (X.blk s H scope (compEnvC scope cl C X.env) fp) G ts tg fg)
    (hi1 : ∀ (s : Shared) (H : Hp) (C : Addr) (cl : List (Str × Addr)) (fp : List Addr), I_ (X.blk s H scope (compEnvC scope cl C X.env) fp) G wTrue true tg1 iter1 fi1)
    (hg1 : ∀ (s : Shared) (H : Hp) (C : Addr) (cl : List (Str × Addr)) (fp : List Addr), G_ (X.blk s H scope (compEnvC scope cl C X.env) fp) G us tg1 fg1)
    (he : ∀ (s : Shared) (H : Hp) (C : Addr) (cl : List (Str × Addr)) (fp : List Addr), E_ (X.blk s H scope (compEnvC scope cl C X.env) fp) G wTrue elt fe)
    (hv : ∀ i ∈ vs2, i ∈ own.map (·.2) := by decide) (hts : ∀ t ∈ ts, t ∈ own.map (·.2) := by decide) (hus : ∀ t ∈ us, t ∈ vs2 := by decide) (hs : ∀ x, foldedSetIterable iter X.env x = pure x := by intro _; rfl) (hs1 : ∀ env x, foldedSetIterable iter1 env x = pure x := by intro _ _; rfl) :
    E_ X G W (.ListComp elt [⟨tg, iter, [], 0⟩, ⟨tg1, iter1, [], 0⟩] scope pos) (fLc2 fi fg fi1 fg1 tYes fe (own.map (·.2)) vs2) :=
  PE.imp (pe_lc2 (vs1 := vs2) hc hN hi ok hv hg (fun _ _ _ _ _ => pts_nil) hi1 hg1 (fun _ _ _ _ _ => pts_nil) he hs hs1) fun σ H Q h => lc2_of hts hus (fun σ H Q ⟨F, δ, P, PX, S, q, k, xk⟩ => k true F H S.ext.stay q) (fun _ _ _ h => h) h
theorem e_lc2If (hc : X.calm = true) (hN : X.N.Nodup) (hi : I_ X G W st tg iter fi) (ok : BlkOk X.N X.env.scope scope own)
    (hg : ∀ (s : Shared) (H : Hp) (C : Addr) (cl : List (Str × Addr)) (fp : List Addr), Go_ (X.blk s H scope (compEnvC scope cl C X.env) fp) G ts tg fg)
    (hi1 : ∀ (s : Shared) (H : Hp) (C : Addr) (cl : List (Str × Addr)) (fp : List Addr), I_ (X.blk s H scope (compEnvC scope cl C X.env) fp) G wTrue true tg1 iter1 fi1)
    (hg1 : ∀ (s : Shared) (H : Hp) (C : Addr) (cl : List (Str × Addr)) (fp : List Addr), G_ (X.blk s H scope (compEnvC scope cl C X.env) fp) G us tg1 fg1)
    (ht : ∀ (s : Shared) (H : Hp) (C : Addr) (cl : List (Str × Addr)) (fp : List Addr), T_ (X.blk s H scope (compEnvC scope cl C X.env) fp) G wTrue c ft)
    (he : ∀ (s : Shared) (H : Hp) (C : Addr) (cl : List (Str × Addr)) (fp : List Addr), E_ (X.blk s H scope (compEnvC scope cl C X.env) fp) G wTrue elt fe)
    (hv : ∀ i ∈ vs2, i ∈ own.map (·.2) := by decide) (hts : ∀ t ∈ ts, t ∈ own.map (·.2) := by decide) (hus : ∀ t ∈ us, t ∈ vs2 := by decide) (hs : ∀ x, foldedSetIterable iter X.env x = pure x := by intro _; rfl) (hs1 : ∀ env x, foldedSetIterable iter1 env x = pure x := by intro _ _; rfl) :
    E_ X G W (.ListComp elt [⟨tg, iter, [], 0⟩, ⟨tg1, iter1, [c], 0⟩] scope pos) (fLc2 fi fg fi1 fg1 ft fe (own.map (·.2)) vs2) :=
  PE.imp (pe_lc2 (vs1 := vs2) hc hN hi ok hv hg (fun _ _ _ _ _ => pts_nil) hi1 hg1 (fun s H C cl fp => pts_one (ht s H C cl fp)) he hs hs1) fun σ H Q h => lc2_of hts hus (fun _ _ _ h => h) (fun _ _ _ h => h) h
theorem s_setLc2 {i : Nat} (hc : X.calm = true) (hN : X.N.Nodup) (hy : X.N[i]? = some y) (hyl : X.env.scope.names.lookup y = some .local) (hsw : swapsWith (.ListComp elt [⟨tg, iter, [], 0⟩, ⟨tg1, iter1, [], 0⟩] scope pos) (some (.Name y py)) spos.line X.env = pure true)
    (hi : I_ X G W st tg iter fi) (ok : BlkOk X.N X.env.scope scope own)
    (hg : ∀ (s : Shared) (H : Hp) (C : Addr) (cl : List (Str × Addr)) (fp : List Addr), Go_ (X.blk s H scope (compEnvC scope cl C X.env) fp) G ts tg fg)
    (hi1 : ∀ (s : Shared) (H : Hp) (C : Addr) (cl : List (Str × Addr)) (fp : List Addr), I_ (X.blk s H scope (compEnvC scope cl C X.env) fp) G wTrue true tg1 iter1 fi1)
    (hg1 : ∀ (s : Shared) (H : Hp) (C : Addr) (cl : List (Str × Addr)) (fp : List Addr), G_ (X.blk s H scope (compEnvC scope cl C X.env) fp) G us tg1 fg1)
    (he : ∀ (s : Shared) (H : Hp) (C : Addr) (cl : List (Str × Addr)) (fp : List Addr), E_ (X.blk s H scope (compEnvC scope cl C X.env) fp) G wTrue elt fe)
    (hv : ∀ i ∈ vs2, i ∈ own.map (·.2) := by decide) (hts : ∀ t ∈ ts, t ∈ own.map (·.2) := by decide) (hus : ∀ t ∈ us, t ∈ vs2 := by decide) (hs : ∀ x, foldedSetIterable iter X.env x = pure x := by intro _; rfl) (hs1 : ∀ env x, foldedSetIterable iter1 env x = pure x := by intro _ _; rfl) :
    S_ X G W (.Assign [.Name y py] (.ListComp elt [⟨tg, iter, [], 0⟩, ⟨tg1, iter1, [], 0⟩] scope pos) spos) (sSetF i (fLc2 fi fg fi1 fg1 tYes fe (own.map (·.2)) vs2)) :=
  DS.imp (ws := sSet i (wE X.K (fLc2 fi fg fi1 fg1 tYes fe (own.map (·.2)) vs2))) (PS.imp (ps_setLc2 (vs1 := vs2) hc hN hy hyl hsw hi ok hv hg (fun _ _ _ _ _ => pts_nil) hi1 hg1 (fun _ _ _ _ _ => pts_nil) he hs hs1) fun D σ H h => by
    have q : tAsg (dT X.K G W (wE X.K (fLc2 fi fg fi1 fg1 tYes fe (own.map (·.2)) vs2))) (gName i) D σ H := set_of h
    unfold tAsg at q ⊢
    exact lc2_of (K := X.K) (G := G) (W := W) (st := st) (fi := fi) (fg := fg) (fi1 := fi1) (fg1 := fg1) (ft := tYes) (fe := fe) (vs := own.map (·.2)) (vs2 := vs2) hts hus (fun σ H Q ⟨F, δ, P, PX, S, q, k, xk⟩ => k true F H S.ext.stay q) (fun _ _ _ h => h) q) fun E δ q => set_imp q
end
end
end FW
set_option Elab.async false
set_option linter.all false
set_option maxRecDepth 100000
set_option maxHeartbeats 4000000
/-! dicts as data: locked for good -/
namespace FW
open PySem PySem.Spec L2 DW
section
variable {K : PySem.W.Frag} {w : Option Dw} {G : Gd} {F F1 F2 H H1 H2 : Hp} {σ σ2 : L2.St} {δ δ2 : DEnv}
theorem Ext.lock (x : Ext w F H F1 H1) {p : Addr} {u u' : HO} (h0 : H p = none) (h : H1 p = some u) (n : F1 p = none) (nd : ∀ d, w = some d → d.a ≠ p) : Ext w F H (upd F1 p u') (upd H1 p u') where
  fs := x.fs.trans (upd_grow n)
  le := fun a o e => by
    by_cases ha : a = p
    · subst ha; rw [upd_same] at e ⊢; exact e
    · rw [upd_ne ha] at e ⊢; exact x.le a o e
  hs := fun a o e d => by
    rw [upd_ne (fun z => by subst z; rw [h0] at e; cases e)]
    exact x.hs a o e d
  new := fun a e => by
    by_cases ha : a = p
    · subst ha; exact .inr (.inl h0)
    · rw [upd_ne ha] at e ⊢; exact x.new a e
  dr := fun d e => by
    have o := x.dr d e
    obtain ⟨i, r, c, h, q⟩ := o.at_
    exact ⟨by rw [upd_ne (nd d e)]; exact o.free, ⟨i, r, c, by rw [upd_ne (nd d e)]; exact h, q⟩, upd_grow n _ _ o.copy, o.few, o.big⟩
/-- a tuple that stands is told -/
theorem Ext.tupIn (x : Ext w F H F1 H1) {q : Addr} {us : List V} (h : H1 q = some (.tup us)) : ∃ F2, Ext w F H F2 H1 ∧ Sub F1 F2 ∧ F2 q = some (.tup us) := by
  cases e : F1 q with
  | some o =>
    have := x.le q o e
    rw [h] at this
    cases this
    exact ⟨F1, x, Sub.refl, e⟩
  | none =>
    refine ⟨upd F1 q (.tup us), ?_, upd_grow e, upd_same⟩
    exact {
      fs := x.fs.trans (upd_grow e)
      le := fun a o ea => by
        by_cases ha : a = q
        · subst ha; rw [upd_same] at ea; rw [← ea]; exact h
        · rw [upd_ne ha] at ea; exact x.le a o ea
      hs := x.hs
      new := fun a ea => by
        by_cases ha : a = q
        · subst ha; exact .inr (.inr ⟨us, upd_same⟩)
        · rw [upd_ne ha] at ea ⊢; exact x.new a ea
      dr := fun d ed => by
        have o := x.dr d ed
        obtain ⟨i, r, c, hd, z⟩ := o.at_
        have ne : d.a ≠ q := fun z => by rw [z, h] at hd; cases hd
        exact ⟨by rw [upd_ne ne]; exact o.free, o.at_, upd_grow e _ _ o.copy, o.few, o.big⟩ }
def dKD (kvs : List (Key × D)) : D := .dict (kvs.map fun kv => (keyD kv.1, kv.2))
def dTD (kvs : List (List Key × D)) : D := .dict ((.none, .none) :: kvs.map fun kv => (.tuple (kv.1.map keyD), kv.2))
theorem zip_self {α β : Type} : ∀ (l : List (α × β)), (l.map (·.1)).zip (l.map (·.2)) = l
  | [] => rfl
  | (a, b) :: r => by rw [List.map_cons, List.map_cons, List.zip_cons_cons, zip_self r]
theorem zip_mapL {α β γ : Type} (f : α → γ) : ∀ (l : List (α × β)), ((l.map (·.1)).map f).zip (l.map (·.2)) = l.map fun kv => (f kv.1, kv.2)
  | [] => rfl
  | (a, b) :: r => by rw [List.map_cons, List.map_cons, List.map_cons, List.zip_cons_cons, zip_mapL f r]; rfl
theorem RepKV.keys {κ : Type} : ∀ {vs : List (κ × V)} {ds : List (κ × D)}, RepKV K F vs ds → vs.map (·.1) = ds.map (·.1)
  | _, _, .nil => rfl
  | _, _, .cons r t => by rw [List.map_cons, List.map_cons, RepKV.keys t]
theorem RepKV.vals {κ : Type} : ∀ {vs : List (κ × V)} {ds : List (κ × D)}, RepKV K F vs ds → RepL K F (vs.map (·.2)) (ds.map (·.2))
  | _, _, .nil => .nil
  | _, _, .cons r t => .cons r (RepKV.vals t)
theorem RepKV.dK {p : Addr} {o : Obj} {vs : List (Key × V)} {kvs : List (Key × D)} (l : RepKV K F vs kvs) (h : F p = some (.frz o (.dK vs))) : RepD K F (.ref p) (dKD kvs) := by
  have e : dKD kvs = .dict (kdK (vs.map (·.1)) (kvs.map (·.2))) := by
    unfold dKD kdK
    rw [RepKV.keys l, zip_mapL]
  rw [e]
  exact .dicK (vs := vs.map (·.2)) (by rw [zip_self]; exact h) (by rw [List.length_map, List.length_map]) (RepKV.vals l)
theorem RepKV.dT {p : Addr} {o : Obj} {vs : List (List Key × V)} {kvs : List (List Key × D)} (l : RepKV K F vs kvs) (h : F p = some (.frz o (.dT vs))) : RepD K F (.ref p) (dTD kvs) := by
  have e : dTD kvs = .dict (kdT (vs.map (·.1)) (kvs.map (·.2))) := by
    unfold dTD kdT
    rw [RepKV.keys l, zip_mapL]
  rw [e]
  exact .dicT (vs := vs.map (·.2)) (by rw [zip_self]; exact h) (by rw [List.length_map, List.length_map]) (RepKV.vals l)
/-- a dict that is told, back -/
theorem RepL.kv {κ : Type} : ∀ {ks : List κ} {vs : List V} {ds : List D}, ks.length = vs.length → RepL K F vs ds → RepKV K F (ks.zip vs) (ks.zip ds)
  | [], [], _, _, .nil => .nil
  | k :: ks, v :: vs, _, h, .cons r t => .cons r (RepL.kv (by simpa using h) t)
  | [], _ :: _, _, h, _ => by cases h
  | _ :: _, [], _, h, _ => by cases h
theorem keyOf_keyD (k : Key) : DW.keyOf (keyD k) = some k := by cases k <;> rfl
theorem keysOf_map (k : List Key) : DW.keysOf (k.map keyD) = some k := by
  induction k with
  | nil => rfl
  | cons a r ih => rw [List.map_cons, DW.keysOf, keyOf_keyD, ih]
theorem keyD_rep (k : Key) : RepD K F (kV k) (keyD k) := by
  cases k with
  | inl i => exact .int i
  | inr s => exact .str s
theorem keysD_rep : ∀ (k : List Key), RepL K F (k.map kV) (k.map keyD)
  | [] => .nil
  | a :: r => .cons (keyD_rep a) (keysD_rep r)
/-! ### locks, for good -/
section
variable {X : Cx} {e : Expr} {st : Stmt}
def tLk (t : TE) : TE := fun σ H Q => t σ H fun x H1 => Q x H1 ∨ ∃ d u, x = .ref d ∧ H1 d = some u ∧ Mut (some u) ∧ ∀ od, Q x (upd H1 d (.frz od u))
theorem pe_lk {t : TE} (h : PE X e t) : PE X e (tLk t) := by
  refine ⟨fun pins s σ H Q I hw => thn (h.run pins s σ H _ I hw) fun v s1 ⟨x, H1, I1, r, q⟩ => ?_⟩
  rcases q with q | ⟨d, u, rfl, hd, mu, q⟩
  · exact ⟨x, H1, I1, r, q⟩
  · obtain ⟨od, I2⟩ := I1.lock hd mu
    exact ⟨.ref d, _, I2, r, q od⟩
def tsLk (t : TS) : TS := fun D σ H => ∃ d u, H d = some u ∧ Mut (some u) ∧ ∀ od, t D σ (upd H d (.frz od u))
theorem ps_lk {t : TS} (h : PS X st t) : PS X st (tsLk t) := by
  refine ⟨fun pins s σ H D I ⟨d, u, hd, mu, hw⟩ => ?_⟩
  obtain ⟨od, I1⟩ := I.lock hd mu
  exact h.run pins s σ _ D I1 (hw od)
end
/-- a result, frozen -/
def frzR : R → R
  | .oK kvs => .im (dKD kvs)
  | .oT kvs => .im (dTD kvs)
  | .ol xs => .im (.list xs)
  | r => r
def fFrz (f : FE) : FE := fun δ => (f δ).bind fun r => .ok (frzR r)
section
variable {X : Cx} {G : Gd} {W : WX} {st : Bool} {tg iter e a b c : Expr} {es rest : List Expr} {fe fa fb : FE} {ft : FT} {fi : FI} {f : FS} {pos p np apos cpos : Pos} {ts us : List Nat} {s : Stmt}
theorem e_frz (h : E_ X G W e fe) : E_ X G W e (fFrz fe) := PE.imp (pe_lk h) fun σ H Q ⟨F, δ, P, PX, S, q, k, xk⟩ => by
  refine ⟨F, δ, _, PX, S, Tr.sat_bind.mp q, fun v F1 H1 r x1 q1 p1 => ?_, xk⟩
  have p1 : P (frzR r) := p1
  cases r with
  | oK kvs =>
    obtain ⟨p, vs, rfl, h0, h1, n, nd, l⟩ := q1
    refine .inr ⟨p, _, rfl, h1, trivial, fun od => k _ _ _ _ (Ext.lock x1 (u' := .frz od (.dK vs)) h0 h1 n nd) ?_ p1⟩
    exact RepKV.dK (l.mono (upd_grow n)) upd_same
  | oT kvs =>
    obtain ⟨p, vs, rfl, h0, h1, n, nd, l⟩ := q1
    refine .inr ⟨p, _, rfl, h1, trivial, fun od => k _ _ _ _ (Ext.lock x1 (u' := .frz od (.dT vs)) h0 h1 n nd) ?_ p1⟩
    exact RepKV.dT (l.mono (upd_grow n)) upd_same
  | ol xs =>
    obtain ⟨F2, x2, _, rd⟩ := RepR.freeze x1 q1 (d := .list xs) rfl
    exact .inl (k v F2 H1 (.im (.list xs)) x2 rd p1)
  | _ => exact .inl (k v F1 H1 _ x1 q1 p1)
/-- a local's own dict is frozen ahead of a statement -/
def sFrzDF (i : Nat) (s : FS) : FS := fun δ => match slotD δ i with
  | some (.oK kvs) => s (δ.set i (some (.im (dKD kvs))))
  | some (.oT kvs) => s (δ.set i (some (.im (dTD kvs))))
  | some (.ol xs) => s (δ.set i (some (.im (.list xs))))
  | some (.im d) => s δ
  | _ => .no
end
theorem RepS.lockD {K : PySem.W.Frag} {i : Nat} {s0 : SV} {d : D} (S : RepS K G F H σ δ) (e : δ[i]? = some (some s0)) (o : s0.owned = true) : ∃ p u, σ[i]? = some (some (.ref p)) ∧ H p = some u ∧ F p = none ∧ RepSV K G.w F H (.ref p) s0 ∧
    ∀ u', RepD K (upd F p u') (.ref p) d → RepS K G (upd F p u') (upd H p u') σ (δ.set i (some (.im d))) := by
  obtain ⟨v0, e1, r0⟩ := S.slot i _ e
  obtain ⟨p, u, rfl, h, n, nd⟩ := r0.own_at o
  have h0 := S.fresh i _ p e o e1
  refine ⟨p, u, e1, h, n, r0, fun u' rd => ?_⟩
  refine ⟨Ext.lock S.ext h0 h n nd, by rw [List.length_set]; exact S.len, fun j t ej => ?_, fun j t p' ej o' e2 => ?_, fun j k t t' p' ne ej ek o1 o2 e3 e4 => ?_⟩
  · by_cases hj : j = i
    · subst hj
      have hl : j < δ.length := (List.getElem?_eq_some_iff.mp e).1
      rw [List.getElem?_set_self hl] at ej
      cases ej
      exact ⟨_, e1, rd⟩
    · rw [List.getElem?_set_ne (Ne.symm hj)] at ej
      obtain ⟨v, e2, r⟩ := S.slot j t ej
      refine ⟨v, e2, ?_⟩
      have off : ∀ q, v = .ref q → t.owned = true → q ≠ p := fun q eq o' z => by
        subst z
        rw [eq] at e2
        exact S.apart j i t _ q hj ej e o' o e2 e1
      cases t with
      | im d => exact RepD.mono (upd_grow n) r
      | ol ys => obtain ⟨q, us, rfl, hq, nq, ndq, lq⟩ := r; exact ⟨q, us, rfl, by rw [upd_ne (off q rfl rfl)]; exact hq, by rw [upd_ne (off q rfl rfl)]; exact nq, ndq, RepL.mono (upd_grow n) lq⟩
      | oK ys => obtain ⟨q, us, rfl, hq, nq, ndq, lq⟩ := r; exact ⟨q, us, rfl, by rw [upd_ne (off q rfl rfl)]; exact hq, by rw [upd_ne (off q rfl rfl)]; exact nq, ndq, lq.mono (upd_grow n)⟩
      | oT ys => obtain ⟨q, us, rfl, hq, nq, ndq, lq⟩ := r; exact ⟨q, us, rfl, by rw [upd_ne (off q rfl rfl)]; exact hq, by rw [upd_ne (off q rfl rfl)]; exact nq, ndq, lq.mono (upd_grow n)⟩
      | drw => exact r
  · by_cases hj : j = i
    · subst hj
      have hl : j < δ.length := (List.getElem?_eq_some_iff.mp e).1
      rw [List.getElem?_set_self hl] at ej
      cases ej; cases o'
    · rw [List.getElem?_set_ne (Ne.symm hj)] at ej
      exact S.fresh j t p' ej o' e2
  · by_cases hj : j = i
    · subst hj
      have hl : j < δ.length := (List.getElem?_eq_some_iff.mp e).1
      rw [List.getElem?_set_self hl] at ej
      cases ej; cases o1
    · by_cases hk : k = i
      · subst hk
        have hl : k < δ.length := (List.getElem?_eq_some_iff.mp e).1
        rw [List.getElem?_set_self hl] at ek
        cases ek; cases o2
      · rw [List.getElem?_set_ne (Ne.symm hj)] at ej
        rw [List.getElem?_set_ne (Ne.symm hk)] at ek
        exact S.apart j k t t' p' ne ej ek o1 o2 e3 e4
section
variable {X : Cx} {G : Gd} {W : WX} {st : Bool} {tg iter e a b c : Expr} {es rest : List Expr} {fe fa fb : FE} {ft : FT} {fi : FI} {f : FS} {pos p np apos cpos : Pos} {ts us : List Nat} {s : Stmt}
theorem s_frzD {i : Nat} (h : S_ X G W s f) : S_ X G W s (sFrzDF i f) :=
  have h2 : PS X s (fun D σ H => dTS X.K G W (wS X.K f) D σ H ∨ tsLk (dTS X.K G W (wS X.K f)) D σ H) := ⟨fun pins s σ H D I hw => hw.elim (fun q => h.run pins s σ H D I q) fun q => (ps_lk h).run pins s σ H D I q⟩
  PS.imp h2 fun D σ H ⟨F, δ, E, S, q, k⟩ => by
    unfold wS sFrzDF at q
    split at q
    · rename_i kvs e
      obtain ⟨p, u, e1, hu, n, r, fin⟩ := RepS.lockD (d := dKD kvs) S (slotD_eq e) rfl
      obtain ⟨p', vs, ep, h1, n1, nd, l⟩ := r
      cases ep
      rw [h1] at hu
      cases hu
      refine .inr ⟨p, _, h1, trivial, fun od => ⟨_, _, E, fin (.frz od (.dK vs)) (RepKV.dK (l.mono (upd_grow n)) upd_same), q, k.sub (upd_grow n)⟩⟩
    · rename_i kvs e
      obtain ⟨p, u, e1, hu, n, r, fin⟩ := RepS.lockD (d := dTD kvs) S (slotD_eq e) rfl
      obtain ⟨p', vs, ep, h1, n1, nd, l⟩ := r
      cases ep
      rw [h1] at hu
      cases hu
      refine .inr ⟨p, _, h1, trivial, fun od => ⟨_, _, E, fin (.frz od (.dT vs)) (RepKV.dT (l.mono (upd_grow n)) upd_same), q, k.sub (upd_grow n)⟩⟩
    · rename_i xs e
      obtain ⟨F2, z, S2⟩ := S.freeze (slotD_eq e)
      exact .inl ⟨F2, _, E, S2, q, k.sub z⟩
    · exact .inl ⟨F, δ, E, S, q, k⟩
    · exact q.elim
end
end
end FW
set_option Elab.async false
set_option linter.all false
set_option maxRecDepth 100000
set_option maxHeartbeats 4000000
/-! enumerate and zip over lists, tuples, texts -/
namespace DW
open PySem PySem.Spec L2 PyProof.Rows
inductive Src where
  | l (a : Addr)
  | t (a : Addr)
  | s (x : Str)
def Src.val : Src → V
  | .l a => .ref a
  | .t a => .ref a
  | .s x => .str x
def sgV (x : Str) : List V := x.cps.toList.map fun c => V.str ⟨#[c]⟩
theorem sgV_len {x : Str} : (sgV x).length = x.cps.size := by unfold sgV; simp
def Src.at (K : PySem.W.Frag) (H : Hp) : Src → List V → Prop
  | .l a, vs => SqL K H a vs
  | .t a, vs => SqT K H a vs
  | .s x, vs => vs = sgV x
def Src.lt (n : Nat) : Src → Prop
  | .l a => a < n
  | .t a => a < n
  | .s _ => True
def Src.itr (it : Addr) (i : Nat) (h : Heap) : Src → Prop
  | .l a => h.IsListIter it a i
  | .t a => h.IsTupleIter it a i
  | .s x => ∃ t, h.IsStrIter it (strIterType x) x t i
theorem Src.itr_obj {q : Src} {it : Addr} {i : Nat} {h : Heap} (e : q.itr it i h) : ∃ o, h.get? it = some o ∧ ∀ v, o.data ≠ .cell v := by
  cases q with
  | l a => obtain ⟨o, e, _, d⟩ := e; exact ⟨o, e, fun v z => by rw [d] at z; cases z⟩
  | t a => obtain ⟨o, e, _, d⟩ := e; exact ⟨o, e, fun v z => by rw [d] at z; cases z⟩
  | s x => obtain ⟨t, o, e, _, d⟩ := e; exact ⟨o, e, fun v z => by rw [d] at z; cases z⟩
theorem Src.itr_keep {q : Src} {it : Addr} {i : Nat} {h h' : Heap} (e : q.itr it i h) (k : ∀ o, h.get? it = some o → h'.get? it = some o) : q.itr it i h' := by
  cases q with
  | l a => obtain ⟨o, e, r⟩ := e; exact ⟨o, k o e, r⟩
  | t a => obtain ⟨o, e, r⟩ := e; exact ⟨o, k o e, r⟩
  | s x => obtain ⟨t, o, e, r⟩ := e; exact ⟨t, o, k o e, r⟩
section
variable {X : Cx} {pins : List (Addr × Obj)} {σ : L2.St} {H : Hp} {s : Shared}
theorem Src.draws (I : Inv X pins σ H s) (hc : X.calm = true) {q : Src} {vs : List V} (hq : q.at X.K H vs) {it : Addr} {i n : Nat} (hi : q.itr it i s.heap) (hl : q.lt n) (hn : n ≤ it) :
    ∃ fp P St, Draws X.prog X.w X.A.in1 it fp vs.length P St ∧ it ∈ fp ∧ (∀ c, n ≤ c → c ≠ it → c ∉ fp) ∧ St i s.heap ∧ (∀ j h, St j h → q.itr it j h) ∧ ∀ j v, P j v → ∃ x, vs[j]? = some x ∧ RelV x v := by
  have hh : X.A.in1.handled = none := I.ok.hd hc
  cases q with
  | l a =>
    obtain ⟨its, rv, p, hz⟩ := I.list hq
    have hne : a ≠ it := Nat.ne_of_lt (Nat.lt_of_lt_of_le hl hn)
    have e : its.toArray.size = vs.length := by have := rv.length; simp; omega
    refine ⟨_, _, _, e ▸ Draws.list (prog := X.prog) (w := X.w) hh it a hne its.toArray, by simp, fun c h1 h2 h3 => ?_, ⟨hi, p.isList⟩, fun j h q => q.1, fun j v q => ?_⟩
    · rcases List.mem_cons.mp h3 with z | z
      · exact h2 z
      · rw [List.mem_singleton.mp z] at h1; exact absurd hl (Nat.not_lt.mpr h1)
    · have q' : its[j]? = some v := by simpa using q
      have hj : j < vs.length := by have := (List.getElem?_eq_some_iff.mp q').1; have := rv.length; omega
      obtain ⟨u, hu, ru⟩ := rv.get (List.getElem?_eq_getElem hj)
      rw [q'] at hu; cases hu
      exact ⟨_, List.getElem?_eq_getElem hj, ru⟩
  | t a =>
    obtain ⟨its, rv, p, hz⟩ := I.tuple hq
    have hne : a ≠ it := Nat.ne_of_lt (Nat.lt_of_lt_of_le hl hn)
    have e : its.toArray.size = vs.length := by have := rv.length; simp; omega
    refine ⟨_, _, _, e ▸ Draws.tuple (prog := X.prog) (w := X.w) hh it a hne its.toArray, by simp, fun c h1 h2 h3 => ?_, ⟨hi, p⟩, fun j h q => q.1, fun j v q => ?_⟩
    · rcases List.mem_cons.mp h3 with z | z
      · exact h2 z
      · rw [List.mem_singleton.mp z] at h1; exact absurd hl (Nat.not_lt.mpr h1)
    · have q' : its[j]? = some v := by simpa using q
      have hj : j < vs.length := by have := (List.getElem?_eq_some_iff.mp q').1; have := rv.length; omega
      obtain ⟨u, hu, ru⟩ := rv.get (List.getElem?_eq_getElem hj)
      rw [q'] at hu; cases hu
      exact ⟨_, List.getElem?_eq_getElem hj, ru⟩
  | s x =>
    obtain ⟨t, hi⟩ := hi
    have e0 : vs = sgV x := hq
    have e : x.cps.size = vs.length := by rw [e0, sgV_len]
    refine ⟨_, _, _, e ▸ Draws.text (prog := X.prog) (w := X.w) hh it x t, by simp, fun c h1 h2 h3 => h2 (List.mem_singleton.mp h3), hi, fun j h q => ⟨t, q⟩, fun j v q => ?_⟩
    obtain ⟨c, u, hcx, rfl⟩ := q
    refine ⟨.str ⟨#[c]⟩, ?_, ⟨u, rfl⟩⟩
    rw [e0]
    unfold sgV
    have hcx' : x.cps.toList[j]? = some c := by simpa using hcx
    rw [List.getElem?_map, hcx']
    rfl
/-- .. begins -/
theorem Src.begins (I : Inv X pins σ H s) {q : Src} {vs : List V} (hq : q.at X.K H vs) {v : Value} (rv : RelV q.val v) : ∃ o Hs, Begins v o Hs ∧ Hs s.heap ∧ ∀ it (h : Heap), h.get? it = some o → q.itr it 0 h := by
  cases q with
  | l a =>
    obtain ⟨its, _, p, hz⟩ := I.list hq
    cases rv
    exact ⟨_, _, begins_list a its.toArray, p.isList, fun it h e => ⟨_, e, rfl, rfl⟩⟩
  | t a =>
    obtain ⟨its, _, p, hz⟩ := I.tuple hq
    cases rv
    exact ⟨_, _, begins_tuple a its.toArray, p, fun it h e => ⟨_, e, rfl, rfl⟩⟩
  | s x =>
    obtain ⟨t, rfl⟩ := rv
    exact ⟨_, _, begins_text x t, trivial, fun it h e => ⟨t, _, e, rfl, rfl⟩⟩
theorem Src.below (I : Inv X pins σ H s) {q : Src} {vs : List V} (hq : q.at X.K H vs) : q.lt s.heap.objs.size := by
  cases q with
  | l a => obtain ⟨its, _, p, hz⟩ := I.list hq; exact p.lt
  | t a => obtain ⟨its, _, p, hz⟩ := I.tuple hq; obtain ⟨o, e, _⟩ := p; exact Heap.lt_size e
  | s x => trivial
end

/-! ### enumerate -/
def IteG (K : PySem.W.Frag) (q : Src) (vs : List V) : It :=
  ⟨fun i H => i < vs.length ∧ q.at K H vs, fun i H v H' => ∃ T x, v = .ref T ∧ H T = none ∧ H' = upd H T (.tup [.int (i : Nat), x]) ∧ vs[i]? = some x, fun i H => vs.length ≤ i ∧ q.at K H vs⟩
theorem turn_enumG {P : Program} {w : World} {K : PySem.W.Frag} {elts : List Expr} {kk : Nat} {tpos : Pos} (q : Src) (vs : List V) (it : Addr) (hl : q.lt it) :
    Turn P w K (.Tuple elts kk tpos) (IteG K q vs) [it + 1, it] (it + 1) (fun i h => i ≤ vs.length ∧ (∃ old, IsEnum h (it + 1) it ((i : Nat) : Int) old) ∧ q.itr it i h) where
  mem := by simp
  obj := fun i h st b hb => by
    obtain ⟨_, ⟨old, he⟩, hi⟩ := st
    have e' : b = it + 1 ∨ b = it := by simpa using hb
    rcases e' with z | z
    · rw [z]; exact ⟨_, he, fun v q => nomatch q⟩
    · rw [z]; exact Src.itr_obj hi
  keep := fun i h h' st k => let ⟨hn, ⟨old, he⟩, hi⟩ := st; ⟨hn, ⟨old, k (it + 1) (by simp) _ he⟩, Src.itr_keep hi fun o q => k it (by simp) o q⟩
  item := by
    intro X hP hw hK hc i pins s σ H E I hf st hg
    subst hP hw hK
    obtain ⟨_, ⟨old, he⟩, hit⟩ := st
    obtain ⟨hlt, hq⟩ := hg
    obtain ⟨fp, P, St, D, hif, hout, hst, hitr, hP⟩ := q.draws I hc hq hit hl (Nat.le_refl _)
    have hne : it + 1 ≠ it := Nat.succ_ne_self _
    have hel : it + 1 < s.heap.objs.size := Heap.lt_size he
    have hil : it < s.heap.objs.size := Nat.lt_of_succ_lt hel
    refine wpAny_pyNext_enum_itemD D he hst hlt hne (hout _ (Nat.le_succ _) hne) fun x h' tk hPx ho hst' hT hsz hk => ?_
    obtain ⟨y, hy, ry⟩ := hP _ _ hPx
    refine ⟨_, rfl, wpAny_letOwnedTupleGo_enum (s := { s with heap := h', toks := tk + 1 }) ho fun h'' he' sb => ?_⟩
    have hT2 : h''.get? s.heap.objs.size = some { cls := .type "tuple", data := .seq #[.int i tk, x] } := (sb.2 _ (Nat.ne_of_gt hel)).trans hT
    have new : ObjOk X.prog X.w (upd H s.heap.objs.size (.tup [.int (i : Nat), y])) h'' s.heap.objs.size (.tup [.int (i : Nat), y]) :=
      ⟨by show 2 ≤ sizeLine; decide, [.int i tk, x], .cons ⟨_, rfl⟩ (.cons ry .nil), ⟨_, hT2, rfl, _, rfl⟩⟩
    have I1 : Inv X pins σ (upd H s.heap.objs.size (.tup [.int (i : Nat), y])) { s with heap := h'', toks := tk + 1 } :=
      I.turnedNew (ch := [it + 1, it]) (fun b ob hb q => (sb.2 b (fun z => hb (by simp [z]))).trans (hk b ob (fun z => hb (by simp [z])) (fun z => hb (by simp [z])) q)) hf (Nat.le_refl _) new
    refine ⟨.ref s.heap.objs.size, _, I1, rfl, ⟨_, y, rfl, I.hok.fresh (Nat.le_refl _), rfl, hy⟩, ⟨hlt, ⟨x, ?_⟩, Src.itr_keep (hitr _ _ hst') fun o q => (sb.2 it (Ne.symm hne)).trans q⟩, fun b hb => ?_⟩
    · have e1 : ((i + 1 : Nat) : Int) = (i : Int) + 1 := by omega
      rw [e1]; exact he'
    · have hb' : b < s.heap.objs.size := by
        have e' : b = it + 1 ∨ b = it := by simpa using hb
        rcases e' with z | z
        · rw [z]; exact hel
        · rw [z]; exact hil
      rw [upd_ne (Nat.ne_of_lt hb')]
      exact (hf b hb).1
  done := by
    intro X hP hw hK hc i pins s σ H E I hf st hg
    subst hP hw hK
    obtain ⟨hle, ⟨old, he⟩, hit⟩ := st
    obtain ⟨hge, hq⟩ := hg
    have e : i = vs.length := Nat.le_antisymm hle hge
    obtain ⟨fp, P, St, D, hif, hout, hst, hitr, hP⟩ := q.draws I hc hq hit hl (Nat.le_refl _)
    obtain ⟨f0, f1, f2, f3, f4, f5⟩ := hf it (by simp)
    exact wpAny_pyNext_enum_endD D he (e ▸ hst) fun h' eb => ⟨rfl, I.turned (t' := s.toks) (fun b o hb q => eb b o hb q) f0 f1 f3 f4 f5⟩
  self := fun A i s Q E st h => let ⟨_, ⟨_, he⟩, _⟩ := st; wpAny_pyIter_enum he h
set_option maxHeartbeats 1000000 in
theorem meets_enumerate_newB1 {v : Value} {o : Obj} {H : Heap → Prop} (B : Begins v o H) :
    Meets (Builtin.«enumerate.__new__» ⟨[.type "enumerate", v], []⟩) (fun _ R s => H s.heap ∧
      R (.ok (.ret (.ref (s.heap.push o).objs.size))) { s with heap := (s.heap.push o).push { cls := .type "enumerate", data := .fields #[.none, .bool false, .ref s.heap.objs.size, rawInt 0, .none, .none] } }) :=
  .of_wp fun prog w A R s h => by
    obtain ⟨hp, g, d, tk, os⟩ := s; obtain ⟨h1, h⟩ := h
    have hsub := sub_enumerate
    have q1 : ∀ {A' : Around} {E : Value → Shared → Prop} {Q : Value → Shared → Prop}, Q (.ref hp.objs.size) ⟨hp.push o, g, d, tk, os⟩ → wpAny (model prog w) A' (pyIter v) Q E ⟨hp, g, d, tk, os⟩ :=
      fun q => B.iter prog w _ _ ⟨hp, g, d, tk, os⟩ _ h1 q
    wp_walk using q1
    refine wpAny_stack_any fun st => wpAny_pure ?_
    split
    · rename_i c _ _ _ _ _
      cases (c == Value.type "enumerate")
      · wp_walk using q1
        exact ⟨_, rfl, h⟩
      · wp_walk using q1
        exact ⟨_, rfl, h⟩
    · wp_walk using q1
      exact ⟨_, rfl, h⟩
theorem enum_begins1 {prog : Program} {w : World} {A : Around} {E : Value → Shared → Prop} {s : Shared} {v : Value} {o : Obj} {H : Heap → Prop} {Q : Value → Shared → Prop} (B : Begins v o H) (h1 : H s.heap)
    (h : ∀ h', IsEnum h' (s.heap.objs.size + 1) s.heap.objs.size 0 .none → h'.get? s.heap.objs.size = some o → h'.objs.size = s.heap.objs.size + 2 →
      (∀ b o, s.heap.get? b = some o → h'.get? b = some o) → Q (.ref (s.heap.objs.size + 1)) { s with heap := h' }) :
    wpAny (model prog w) A (call (.type "enumerate") [v]) Q E s := by
  refine callType_new F.called_enumerate (by decide) (F.typeCall_enumerate_1 _) (F.newCall_enumerate_1 _) (fun obj => F.args_object_init_2 obj _) F.entry_enumerate_new
    (meets_enumerate_newB1 B) ⟨h1, ?_⟩
  have hz : (s.heap.push o).objs.size = s.heap.objs.size + 1 := Heap.size_push ..
  show _ ∧ _
  rw [hz]
  have he : IsEnum ((s.heap.push o).push { cls := .type "enumerate", data := .fields #[.none, .bool false, .ref s.heap.objs.size, rawInt 0, .none, .none] }) (s.heap.objs.size + 1) s.heap.objs.size 0 .none := by
    have := Heap.get?_push_size (s.heap.push o) (o := { cls := .type "enumerate", data := .fields #[.none, .bool false, .ref s.heap.objs.size, rawInt 0, .none, .none] }) rfl
    rw [hz] at this; exact this
  refine ⟨⟨_, he, rfl⟩, h _ he (Heap.get?_push_of_some _ (Heap.get?_push_size _ B.free)) (by rw [Heap.size_push, hz]) fun b o x => Heap.get?_push_of_some _ (Heap.get?_push_of_some _ x)⟩
def iEnumG (K : PySem.W.Frag) (ta : TA) : TI := fun σ H R => ta σ H fun vs H1 => ∃ q us, vs = [Src.val q] ∧ q.at K H1 us ∧ R (IteG K q us) H1
theorem pi_enumG {X : Cx} {e : Expr} {ta : TA} {p pos tpos : Pos} {elts : List Expr} {kk : Nat} (hg : Gl X "enumerate") (hm : X.mg "enumerate" = none) (ha : PA X [e] ta) (hs : starEach [e] X.env = [(false, eval e X.env)] := by rfl) :
    PI X (.Tuple elts kk tpos) (.Call (.Name "enumerate" p) [e] [] pos) (iEnumG X.K ta) := by
  refine ⟨fun pins s σ H R I h => ?_⟩
  refine Call_ (ld_blt I hg hm boot_enumerate (PyProof.Rows.callWith_type1 (thn (ha.run pos pins s σ H _ I h) fun us s1 ⟨vs, H1, I1, r1, q1⟩ => ?_) hs rfl))
  obtain ⟨q, xs, ex, hq, qq⟩ := q1
  subst ex
  cases r1 with
  | cons r rr =>
    cases rr
    obtain ⟨o, Hs, B, hB, hi0⟩ := q.begins I1 hq r
    refine enum_begins1 B hB fun h' he ho hsz hk => wpAny_pyIter_enum he ?_
    have I2 : Inv X pins σ H1 { s1 with heap := h' } := I1.kept (t' := s1.toks) hk
    refine ⟨s1.heap.objs.size + 1, [s1.heap.objs.size + 1, s1.heap.objs.size], _, _, H1, rfl, I2, turn_enumG q xs s1.heap.objs.size (q.below I1 hq), ⟨Nat.zero_le _, ⟨.none, he⟩, hi0 _ _ ho⟩, fun b hb => ?_, qq⟩
    have e' : b = s1.heap.objs.size + 1 ∨ b = s1.heap.objs.size := by simpa using hb
    have hle : s1.heap.objs.size ≤ b := by
      rcases e' with z | z
      · rw [z]; exact Nat.le_add_right _ _
      · rw [z]; exact Nat.le_refl _
    exact I1.fpOk hle (I1.hok.fresh hle)
/-! ### zip -/
def ItzG (K : PySem.W.Frag) (q1 q2 : Src) (vs1 vs2 : List V) : It :=
  ⟨fun i H => i < vs1.length ∧ i < vs2.length ∧ q1.at K H vs1 ∧ q2.at K H vs2, fun i H v H' => ∃ T x y, v = .ref T ∧ H T = none ∧ H' = upd H T (.tup [x, y]) ∧ vs1[i]? = some x ∧ vs2[i]? = some y,
    fun i H => (vs1.length ≤ i ∨ vs2.length ≤ i) ∧ q1.at K H vs1 ∧ q2.at K H vs2⟩
theorem zsep {n : Nat} {fp1 fp2 : List Addr} (m1 : n ∈ fp1) (m2 : n + 1 ∈ fp2) (o1 : ∀ c, n ≤ c → c ≠ n → c ∉ fp1) (o2 : ∀ c, n ≤ c → c ≠ n + 1 → c ∉ fp2) : ZipSep2 (n + 4) (n + 2) (n + 3) n (n + 1) fp1 fp2 where
  TIz := Nat.ne_of_lt (by omega)
  TOz := Nat.ne_of_lt (by omega)
  TITO := Nat.ne_of_lt (by omega)
  TIi1 := Nat.ne_of_gt (by omega)
  mem1 := m1
  zf1 := o1 _ (by omega) (Nat.ne_of_gt (by omega))
  Tf1 := o1 _ (by omega) (Nat.ne_of_gt (by omega))
  TIi2 := Nat.ne_of_gt (by omega)
  mem2 := m2
  zf2 := o2 _ (by omega) (Nat.ne_of_gt (by omega))
  Tf2 := o2 _ (by omega) (Nat.ne_of_gt (by omega))
  sep1_2 := o2 _ (by omega) (Nat.ne_of_lt (by omega))
  sep2_1 := o1 _ (by omega) (Nat.ne_of_gt (by omega))
theorem mem5 {n : Nat} {c : Addr} : c ∈ [n + 4, n + 2, n + 3, n, n + 1] ↔ c = n + 4 ∨ c = n + 2 ∨ c = n + 3 ∨ c = n ∨ c = n + 1 := by simp
theorem turn_zipG {P : Program} {w : World} {K : PySem.W.Frag} {elts : List Expr} {kk : Nat} {tpos : Pos} (q1 q2 : Src) (vs1 vs2 : List V) (n : Nat) (hl1 : q1.lt n) (hl2 : q2.lt n) :
    Turn P w K (.Tuple elts kk tpos) (ItzG K q1 q2 vs1 vs2) [n + 4, n + 2, n + 3, n, n + 1] (n + 4) (fun i h => i ≤ vs1.length ∧ i ≤ vs2.length ∧ IsZip h (n + 4) (n + 2) (n + 3) .none ∧ IsTupOf2 h (n + 2) (.ref n) (.ref (n + 1)) ∧ (∃ x y, IsTupOf2 h (n + 3) x y) ∧ q1.itr n i h ∧ q2.itr (n + 1) i h) where
  mem := by simp
  obj := fun i h st c hc => by
    obtain ⟨_, _, hz, hTI, ⟨x, y, hTO⟩, h1, h2⟩ := st
    rcases mem5.mp hc with q | q | q | q | q
    · rw [q]; exact ⟨_, hz, fun v q => nomatch q⟩
    · rw [q]; exact ⟨_, hTI, fun v q => nomatch q⟩
    · rw [q]; exact ⟨_, hTO, fun v q => nomatch q⟩
    · rw [q]; exact Src.itr_obj h1
    · rw [q]; exact Src.itr_obj h2
  keep := fun i h h' st k => by
    obtain ⟨l1, l2, hz, hTI, ⟨x, y, hTO⟩, h1, h2⟩ := st
    exact ⟨l1, l2, k _ (by simp) _ hz, k _ (by simp) _ hTI, ⟨x, y, k _ (by simp) _ hTO⟩, Src.itr_keep h1 fun o q => k n (by simp) o q, Src.itr_keep h2 fun o q => k (n + 1) (by simp) o q⟩
  item := by
    intro X hP hw hK hc i pins s σ H E I hf st hg
    subst hP hw hK
    obtain ⟨_, _, hz, hTI, ⟨x0, y0, hTO⟩, h1, h2⟩ := st
    obtain ⟨lt1, lt2, hq1, hq2⟩ := hg
    obtain ⟨fp1, P1, St1, D1, m1, o1, st1, it1, r1⟩ := q1.draws I hc hq1 h1 hl1 (Nat.le_refl _)
    obtain ⟨fp2, P2, St2, D2, m2, o2, st2, it2, r2⟩ := q2.draws I hc hq2 h2 hl2 (Nat.le_succ _)
    have S := zsep m1 m2 o1 o2
    have hzl : n + 4 < s.heap.objs.size := Heap.lt_size hz
    refine wpAny_pyNext_zipD2_item S D1 D2 hz hTI hTO st1 st2 lt1 lt2 fun x1 x2 h' tk p1 p2 z' TO' st1' st2' hT hsz hk => ?_
    obtain ⟨y1, hy1, ry1⟩ := r1 _ _ p1
    obtain ⟨y2, hy2, ry2⟩ := r2 _ _ p2
    refine ⟨_, rfl, wpAny_letOwnedTupleGo_zip (s := { s with heap := h', toks := tk }) z' fun h'' z'' sb => ?_⟩
    have hT2 : h''.get? s.heap.objs.size = some { cls := .type "tuple", data := .seq #[x1, x2] } := (sb.2 _ (Nat.ne_of_gt hzl)).trans hT
    have new : ObjOk X.prog X.w (upd H s.heap.objs.size (.tup [y1, y2])) h'' s.heap.objs.size (.tup [y1, y2]) :=
      ⟨by show 2 ≤ sizeLine; decide, [x1, x2], .cons ry1 (.cons ry2 .nil), ⟨_, hT2, rfl, _, rfl⟩⟩
    have I1 : Inv X pins σ (upd H s.heap.objs.size (.tup [y1, y2])) { s with heap := h'', toks := tk } :=
      I.turnedNew (ch := [n + 4, n + 2, n + 3, n, n + 1]) (fun c o hb q => (sb.2 c (fun q' => hb (by simp [q']))).trans (hk c o (fun q' => hb (by simp [q'])) (fun q' => hb (by simp [q'])) (fun q' => hb (by simp [q'])) (fun q' => hb (by simp [q'])) q)) hf (Nat.le_refl _) new
    refine ⟨.ref s.heap.objs.size, _, I1, rfl, ⟨_, y1, y2, rfl, I.hok.fresh (Nat.le_refl _), rfl, hy1, hy2⟩, ⟨lt1, lt2, z'', ?_, ⟨x1, x2, ?_⟩, ?_, ?_⟩, fun c hcm => ?_⟩
    · exact (sb.2 _ S.TIz).trans (hk _ _ S.TIz S.TITO S.TIi1 S.TIi2 hTI)
    · exact (sb.2 _ S.TOz).trans TO'
    · exact Src.itr_keep (it1 _ _ st1') fun o q => (sb.2 _ (Ne.symm S.zi1)).trans q
    · exact Src.itr_keep (it2 _ _ st2') fun o q => (sb.2 _ (Ne.symm S.zi2)).trans q
    · have hlt : c < s.heap.objs.size := by
        have hzl' : n + 4 < s.heap.objs.size := hzl
        rcases mem5.mp hcm with q | q | q | q | q
        · rw [q]; exact hzl
        · rw [q]; exact Nat.lt_of_le_of_lt (by omega) hzl'
        · rw [q]; exact Nat.lt_of_le_of_lt (by omega) hzl'
        · rw [q]; exact Nat.lt_of_le_of_lt (by omega) hzl'
        · rw [q]; exact Nat.lt_of_le_of_lt (by omega) hzl'
      rw [upd_ne (Nat.ne_of_lt hlt)]
      exact (hf c hcm).1
  done := by
    intro X hP hw hK hc i pins s σ H E I hf st hg
    subst hP hw hK
    obtain ⟨le1, le2, hz, hTI, ⟨x0, y0, hTO⟩, h1, h2⟩ := st
    obtain ⟨hend, hq1, hq2⟩ := hg
    obtain ⟨fp1, P1, St1, D1, m1, o1, st1, it1, r1⟩ := q1.draws I hc hq1 h1 hl1 (Nat.le_refl _)
    obtain ⟨fp2, P2, St2, D2, m2, o2, st2, it2, r2⟩ := q2.draws I hc hq2 h2 hl2 (Nat.le_succ _)
    have S := zsep m1 m2 o1 o2
    have hen : i = vs1.length ∨ i = vs2.length := hend.elim (fun h => .inl (Nat.le_antisymm le1 h)) fun h => .inr (Nat.le_antisymm le2 h)
    exact wpAny_pyNext_zipD2_end S D1 D2 hz hTI hTO st1 st2 le1 le2 hen fun h' tk hk => ⟨rfl, I.turnedL (ch := [n + 4, n + 2, n + 3, n, n + 1]) (fun c o hb q =>
      hk c o (fun q' => hb (by simp [q'])) (fun q' => hb (by simp [q'])) (fun q' => hb (by simp [q'])) (fun q' => hb (by simp [q'])) q) hf⟩
  self := fun A i s Q E st h => wpAny_pyIter_zip st.2.2.1 h
def iZipG (K : PySem.W.Frag) (ta : TA) : TI := fun σ H R => ta σ H fun vs H1 => ∃ q1 q2 us1 us2, vs = [Src.val q1, Src.val q2] ∧ q1.at K H1 us1 ∧ q2.at K H1 us2 ∧ R (ItzG K q1 q2 us1 us2) H1
theorem pi_zipG {X : Cx} {e e2 : Expr} {ta : TA} {p pos tpos : Pos} {elts : List Expr} {kk : Nat} (hg : Gl X "zip") (hm : X.mg "zip" = none) (ha : PA X [e, e2] ta)
    (hs : starEach [e, e2] X.env = (false, eval e X.env) :: starEach [e2] X.env := by rfl) (hpl : (backTo pos (starEach [e2] X.env)).any (·.1) = false := by rfl) :
    PI X (.Tuple elts kk tpos) (.Call (.Name "zip" p) [e, e2] [] pos) (iZipG X.K ta) := by
  refine ⟨fun pins s σ H R I h => ?_⟩
  refine Call_ (ld_blt I hg hm PyProof.Rows.boot_zip (PyProof.Rows.callWith_type1 (thn (ha.run pos pins s σ H _ I h) fun us s1 ⟨vs, H1, I1, r1, q1⟩ => ?_) hs hpl))
  obtain ⟨q1, q2, xs, ys, ex, hq1, hq2, qq⟩ := q1
  subst ex
  cases r1 with
  | cons r rr =>
    cases rr with
    | cons r' rr =>
      cases rr
      obtain ⟨o1, Hs1, B1, hB1, hi1⟩ := q1.begins I1 hq1 r
      obtain ⟨o2, Hs2, B2, hB2, hi2⟩ := q2.begins I1 hq2 r'
      refine zip_begins2 B1 B2 hB1 hB2 fun h' hz hTI hTO h1 h2 hsz hk => wpAny_pyIter_zip hz ?_
      have I2 : Inv X pins σ H1 { s1 with heap := h' } := I1.kept (t' := s1.toks) hk
      refine ⟨s1.heap.objs.size + 4, [s1.heap.objs.size + 4, s1.heap.objs.size + 2, s1.heap.objs.size + 3, s1.heap.objs.size, s1.heap.objs.size + 1], _, _, H1, rfl, I2, turn_zipG q1 q2 xs ys s1.heap.objs.size (q1.below I1 hq1) (q2.below I1 hq2), ⟨Nat.zero_le _, Nat.zero_le _, hz, hTI, ⟨_, _, hTO⟩, hi1 _ _ h1, hi2 _ _ h2⟩, fun c hcm => ?_, qq⟩
      have hle : s1.heap.objs.size ≤ c := by
        rcases mem5.mp hcm with z | z | z | z | z
        · rw [z]; exact Nat.le_add_right _ _
        · rw [z]; exact Nat.le_add_right _ _
        · rw [z]; exact Nat.le_add_right _ _
        · rw [z]; exact Nat.le_refl _
        · rw [z]; exact Nat.le_add_right _ _
      exact I1.fpOk hle (I1.hok.fresh hle)
/-! ### as data -/
def seqD : R → Option (List D)
  | .im (.list xs) => some xs
  | .im (.tuple xs) => some xs
  | .im (.str s) => some (signs s)
  | .ol xs => some xs
  | _ => none
theorem sgs_rep {K : PySem.W.Frag} {F : Hp} {x : Str} : RepL K F (sgV x) (signs x) := by
  unfold sgV signs
  generalize x.cps.toList = l
  induction l with
  | nil => exact .nil
  | cons c l ih => exact .cons (.str _) ih
theorem RepR.seqS {K : PySem.W.Frag} {w : Option Dw} {F F1 H H1 : Hp} {v : V} {r : R} (x : Ext w F H F1 H1) (q : RepR K w H F1 H1 v r) {xs : List D} (e : seqD r = some xs) :
    ∃ F2 vs sq, Ext w F H F2 H1 ∧ Sub F1 F2 ∧ v = Src.val sq ∧ RepL K F2 vs xs ∧ ∀ H', Sub F2 H' → sq.at K H' vs := by
  cases r with
  | im d =>
    cases d with
    | list ys =>
      have z : ys = xs := Option.some.inj e
      subst z
      cases q with
      | lst h l => exact ⟨F1, _, .l _, x, Sub.refl, rfl, l, fun H' le => .inl (.inl (le _ _ h))⟩
    | tuple ys =>
      have z : ys = xs := Option.some.inj e
      subst z
      obtain ⟨a, us, rfl, ha, la⟩ := q.tuple x.le (xs := ys) rfl
      exact ⟨F1, us, .t a, x, Sub.refl, rfl, la, fun H' le => .inl (.inl (le _ _ ha))⟩
    | str s =>
      have z : signs s = xs := Option.some.inj e
      subst z
      cases q
      exact ⟨F1, _, .s s, x, Sub.refl, rfl, sgs_rep, fun H' le => rfl⟩
    | _ => cases e
  | ol ys =>
    have z : ys = xs := Option.some.inj e
    subst z
    obtain ⟨F2, x2, s2, rd⟩ := q.freeze x (d := .list ys) rfl
    cases rd with
    | lst h l => exact ⟨F2, _, .l _, x2, s2, rfl, l, fun H' le => .inl (.inl (le _ _ h))⟩
  | _ => cases e
section
variable {K : PySem.W.Frag} {G : Gd} {F F1 F2 H H1 H2 : Hp} {σ : L2.St} {δ : DEnv}
variable {X : Cx} {W : WX} {st : Bool} {tg e a b c : Expr} {es rest : List Expr} {we wa wb wc : WE'} {wt wu : WT} {waa : WA} {pos p : Pos}
theorem walkEG {w : Option Dw} {q : Src} {vs : List V} {xs : List D} {F0 : Hp} (l : RepL K F0 vs xs) (hq : ∀ H', Sub F0 H' → q.at K H' vs) : DWalk K w (fun F H => Sub F0 F ∧ Sub F H) (IteG K q vs) (enums xs) := by
  intro F H ⟨s0, le⟩ x0
  refine ⟨fun i hi => ?_, ⟨by rw [RepL.length l, enums_len]; exact Nat.le_refl _, hq _ (s0.trans le)⟩, fun i x H' d e y => ?_⟩
  · have hi' : i < vs.length := by rw [RepL.length l, ← enums_len]; exact hi
    exact ⟨hi', hq _ (s0.trans le)⟩
  · obtain ⟨T, z, rfl, hT, rfl, y⟩ := y
    obtain ⟨dy, ey, rfl⟩ := enums_at e
    obtain ⟨v, e1, rv⟩ := RepL.get l ey
    rw [e1] at y
    cases y
    have x1 := x0.laid (u := .tup [.int (i : Nat), z]) hT
    exact ⟨_, x1, .tup upd_same (.cons (.int _) (.cons (RepD.mono (s0.trans x1.fs) rv) .nil))⟩
def wiEG (wa : WA) : WI := fun δ P PX => wa δ (fun rs => ∃ r xs, rs = [r] ∧ seqD r = some xs ∧ P (enums xs)) PX
theorem di_enumG {elts : List Expr} {kk : Nat} {tpos : Pos} (hg : Gl X "enumerate") (hm : X.mg "enumerate" = none) (ha : DA X G W [e] waa) (hs : starEach [e] X.env = [(false, eval e X.env)] := by rfl) :
    DI X G W true (.Tuple elts kk tpos) (.Call (.Name "enumerate" p) [e] [] pos) (wiEG waa) :=
  PI.imp (pi_enumG hg hm ha hs) fun σ H R ⟨F, δ, P, PX, S, q, k, xk⟩ => by
    refine ⟨F, δ, _, PX, S, q, fun vs F1 H1 rs x1 q1 ⟨r, xs, e, ed, p1⟩ => ?_, xk⟩
    subst e
    cases q1 with
    | cons rr t =>
      cases t
      obtain ⟨F2, us, sq, x2, s2, ev, l, hq⟩ := rr.seqS x1 ed
      refine ⟨sq, us, by rw [ev], hq _ x2.le, k _ (fun F H => Sub F2 F ∧ Sub F H) F2 H1 _ x2 ⟨Sub.refl, x2.le⟩ (walkEG l hq) ?_ p1⟩
      exact fun F H F' H' ⟨s0, le⟩ s1 s2 => ⟨s0.trans s1, s2⟩
def zips (xs ys : List D) : List D := List.zipWith (fun a b => .tuple [a, b]) xs ys
theorem walkZG {w : Option Dw} {q1 q2 : Src} {vs ws : List V} {xs ys : List D} {F0 : Hp} (l1 : RepL K F0 vs xs) (l2 : RepL K F0 ws ys) (hq1 : ∀ H', Sub F0 H' → q1.at K H' vs) (hq2 : ∀ H', Sub F0 H' → q2.at K H' ws) :
    DWalk K w (fun F H => Sub F0 F ∧ Sub F H) (ItzG K q1 q2 vs ws) (zips xs ys) := by
  intro F H ⟨s0, le⟩ x0
  have e0 : (zips xs ys).length = min vs.length ws.length := by unfold zips; rw [List.length_zipWith, RepL.length l1, RepL.length l2]
  refine ⟨fun i hi => ?_, ⟨by rw [e0]; omega, hq1 _ (s0.trans le), hq2 _ (s0.trans le)⟩, fun i x H' d e y => ?_⟩
  · rw [e0] at hi
    exact ⟨by omega, by omega, hq1 _ (s0.trans le), hq2 _ (s0.trans le)⟩
  · obtain ⟨T, z1, z2, rfl, hT, rfl, y1, y2⟩ := y
    unfold zips at e
    rw [List.getElem?_zipWith] at e
    obtain ⟨d1, e1, r1⟩ := RepL.get' l1 y1
    obtain ⟨d2, e2, r2⟩ := RepL.get' l2 y2
    rw [e1, e2] at e
    cases e
    have x1 := x0.laid (u := .tup [z1, z2]) hT
    exact ⟨_, x1, .tup upd_same (.cons (RepD.mono (s0.trans x1.fs) r1) (.cons (RepD.mono (s0.trans x1.fs) r2) .nil))⟩
def wiZG (wa : WA) : WI := fun δ P PX => wa δ (fun rs => ∃ r1 r2 xs ys, rs = [r1, r2] ∧ seqD r1 = some xs ∧ seqD r2 = some ys ∧ P (zips xs ys)) PX
theorem di_zipG {elts : List Expr} {kk : Nat} {tpos : Pos} (hg : Gl X "zip") (hm : X.mg "zip" = none) (ha : DA X G W [a, b] waa)
    (hs : starEach [a, b] X.env = (false, eval a X.env) :: starEach [b] X.env := by rfl) (hpl : (backTo pos (starEach [b] X.env)).any (·.1) = false := by rfl) :
    DI X G W true (.Tuple elts kk tpos) (.Call (.Name "zip" p) [a, b] [] pos) (wiZG waa) :=
  PI.imp (pi_zipG hg hm ha hs hpl) fun σ H R ⟨F, δ, P, PX, S, q, k, xk⟩ => by
    refine ⟨F, δ, _, PX, S, q, fun vs F1 H1 rs x1 q1 ⟨r1, r2, xs, ys, e, ed1, ed2, p1⟩ => ?_, xk⟩
    subst e
    cases q1 with
    | cons rr t =>
      cases t with
      | cons rr2 t =>
        cases t
        cases ed2' : r2 with
        | ol zs =>
          rw [ed2'] at ed2 rr2
          have z : zs = ys := Option.some.inj ed2
          subst z
          obtain ⟨p2, vs2, ev2, h02, h2, n2, nd2, l2⟩ := rr2
          by_cases hr : ∃ zs, r1 = .ol zs
          · obtain ⟨zs1, rfl⟩ := hr
            have z : zs1 = xs := Option.some.inj ed1
            subst z
            obtain ⟨p1', vs1, ev1, h01, h1, n1, nd1, l1⟩ := rr
            have x2 := x1.freeze h01 h1 n1 nd1
            by_cases hp : p2 = p1'
            · subst hp
              rw [h2] at h1
              cases h1
              refine ⟨.l p2, .l p2, vs2, vs2, by rw [ev1, ev2]; rfl, SqL.of h2, SqL.of h2, k _ (fun F H => Sub (upd F1 p2 (.lst vs2)) F ∧ Sub F H) _ H1 _ x2 ⟨Sub.refl, x2.le⟩ (walkZG (RepL.mono (upd_grow n1) l1) (RepL.mono (upd_grow n1) l2) (fun H' le => .inl (.inl (le _ _ upd_same))) (fun H' le => .inl (.inl (le _ _ upd_same)))) ?_ p1⟩
              exact fun F H F' H' ⟨s0, le⟩ s1 s2 => ⟨s0.trans s1, s2⟩
            · have n2' : upd F1 p1' (.lst vs1) p2 = none := by rw [upd_ne hp]; exact n2
              have x3 := x2.freeze h02 h2 n2' nd2
              refine ⟨.l p1', .l p2, vs1, vs2, by rw [ev1, ev2]; rfl, SqL.of h1, SqL.of h2, k _ (fun F H => Sub (upd (upd F1 p1' (.lst vs1)) p2 (.lst vs2)) F ∧ Sub F H) _ H1 _ x3 ⟨Sub.refl, x3.le⟩
                (walkZG (RepL.mono ((upd_grow n1).trans (upd_grow n2')) l1) (RepL.mono ((upd_grow n1).trans (upd_grow n2')) l2) (fun H' le => .inl (.inl (le _ _ (upd_grow n2' _ _ upd_same)))) (fun H' le => .inl (.inl (le _ _ upd_same)))) ?_ p1⟩
              exact fun F H F' H' ⟨s0, le⟩ s1 s2 => ⟨s0.trans s1, s2⟩
          · obtain ⟨F2, us, sq, x2, s2, ev, l, hq⟩ := rr.seqS x1 ed1
            have eF : F2 p2 = none ∨ F2 p2 ≠ none := Classical.em _
            rcases eF with n2' | n2'
            · have x3 := x2.freeze h02 h2 n2' nd2
              refine ⟨sq, .l p2, us, vs2, by rw [ev, ev2]; rfl, hq _ x2.le, SqL.of h2, k _ (fun F H => Sub (upd F2 p2 (.lst vs2)) F ∧ Sub F H) _ H1 _ x3 ⟨Sub.refl, x3.le⟩
                (walkZG (RepL.mono (upd_grow n2') l) (RepL.mono (s2.trans (upd_grow n2')) l2) (fun H' le => hq _ ((upd_grow n2').trans le)) (fun H' le => .inl (.inl (le _ _ upd_same)))) ?_ p1⟩
              exact fun F H F' H' ⟨s0, le⟩ s1 s2 => ⟨s0.trans s1, s2⟩
            · obtain ⟨u, eu⟩ := Option.ne_none_iff_exists'.mp n2'
              have eu' := x2.le _ _ eu
              rw [h2] at eu'
              cases eu'
              refine ⟨sq, .l p2, us, vs2, by rw [ev, ev2]; rfl, hq _ x2.le, SqL.of h2, k _ (fun F H => Sub F2 F ∧ Sub F H) _ H1 _ x2 ⟨Sub.refl, x2.le⟩
                (walkZG l (RepL.mono s2 l2) (fun H' le => hq _ le) (fun H' le => .inl (.inl (le _ _ eu)))) ?_ p1⟩
              exact fun F H F' H' ⟨s0, le⟩ s1 s2 => ⟨s0.trans s1, s2⟩
        | im d =>
          rw [ed2'] at ed2 rr2
          obtain ⟨F2, us, sq, x2, s2, ev, l, hq⟩ := rr.seqS x1 ed1
          have rr3 : RepR X.K G.w H F2 H1 _ (.im d) := RepD.mono s2 rr2
          obtain ⟨F3, us3, sq3, x3, s3, ev3, l3, hq3⟩ := rr3.seqS x2 ed2
          refine ⟨sq, sq3, us, us3, by rw [ev, ev3], hq _ (s3.trans x3.le), hq3 _ x3.le, k _ (fun F H => Sub F3 F ∧ Sub F H) F3 H1 _ x3 ⟨Sub.refl, x3.le⟩ (walkZG (RepL.mono s3 l) l3 (fun H' le => hq _ (s3.trans le)) hq3) ?_ p1⟩
          exact fun F H F' H' ⟨s0, le⟩ s1 s2 => ⟨s0.trans s1, s2⟩
        | _ => rw [ed2'] at ed2; cases ed2
end
end DW
namespace FW
open PySem PySem.Spec L2 DW
section
variable {X : Cx} {G : Gd} {W : WX} {st : Bool} {tg iter e a b c o elt kx vx : Expr} {es rest : List Expr} {fe fa fb fc fo fk fv : FE} {ft fu : FT} {faa : FA} {fi : FI} {fg : FG} {fgs : FGs} {pos p np p2 : Pos} {ts us : List Nat} {s : Stmt} {body : List Stmt}
def iEG (fa : FA) : FI := fun δ => (fa δ).bind fun rs => match rs with
  | [r] => (ofO (seqD r)).bind fun xs => .ok (enums xs)
  | _ => .no
theorem i_enumG {elts : List Expr} {kk : Nat} {tpos : Pos} (hg : Gl X "enumerate") (hm : X.mg "enumerate" = none) (ha : A_ X G W [e] faa) (hs : starEach [e] X.env = [(false, eval e X.env)] := by rfl) : I_ X G W true (.Tuple elts kk tpos) (.Call (.Name "enumerate" p) [e] [] pos) (iEG faa) :=
  DI.imp (di_enumG hg hm ha hs) fun δ P PX q => Tr.sat_of (Tr.sat_bind.mp q) fun rs qr => by
    split at qr
    · obtain ⟨xs, e1, p1⟩ := ofO_sat (Tr.sat_bind.mp qr)
      exact ⟨_, xs, rfl, e1, p1⟩
    · exact qr.elim
def iZG (fa : FA) : FI := fun δ => (fa δ).bind fun rs => match rs with
  | [r1, r2] => (ofO (seqD r1)).bind fun xs => (ofO (seqD r2)).bind fun ys => .ok (zips xs ys)
  | _ => .no
theorem i_zipG {elts : List Expr} {kk : Nat} {tpos : Pos} (hg : Gl X "zip") (hm : X.mg "zip" = none) (ha : A_ X G W [a, b] faa)
    (hs : starEach [a, b] X.env = (false, eval a X.env) :: starEach [b] X.env := by rfl) (hpl : (backTo pos (starEach [b] X.env)).any (·.1) = false := by rfl) : I_ X G W true (.Tuple elts kk tpos) (.Call (.Name "zip" p) [a, b] [] pos) (iZG faa) :=
  DI.imp (di_zipG hg hm ha hs hpl) fun δ P PX q => Tr.sat_of (Tr.sat_bind.mp q) fun rs qr => by
    split at qr
    · obtain ⟨xs, e1, p1⟩ := ofO_sat (Tr.sat_bind.mp qr)
      obtain ⟨ys, e2, p2⟩ := ofO_sat (Tr.sat_bind.mp p1)
      exact ⟨_, _, xs, ys, rfl, e1, e2, p2⟩
    · exact qr.elim
end
end FW
set_option Elab.async false
set_option linter.all false
set_option maxRecDepth 100000
set_option maxHeartbeats 4000000
/-! {k: v for .. in .. for .. in .. if ..} -/
namespace DW
open PySem PySem.Spec L2 PyProof.Rows
theorem compTurn2D_out (kx vx t0 i0 t1 i1 : Expr) (ifs0 ifs1 : List Expr) (scope : Scope) (pos : Pos) (it acc : Value) (env : Env) :
    compTurn (.DictComp kx vx [⟨t0, i0, ifs0, 0⟩, ⟨t1, i1, ifs1, 0⟩] scope pos) 0 it acc env = (do
      standAt i0.pos
      match ← pyNext it with
      | none => pure (.done .next)
      | some v =>
        letOwnedTupleGo t0 it v
        assign t0 env v
        let mut ok := true
        for c in ifs0 do
          if ok then ok ← isTrue c env (eval c env)
        if ok then
          let x ← eval i1 env
          standAt i1.pos
          let x ← foldedSetIterable i1 env x
          let _ ← runOwn (.compStart (.DictComp kx vx [⟨t0, i0, ifs0, 0⟩, ⟨t1, i1, ifs1, 0⟩] scope pos) 1 (← holding [x] (pyIter x)) acc env) env
        again (.compLoop (.DictComp kx vx [⟨t0, i0, ifs0, 0⟩, ⟨t1, i1, ifs1, 0⟩] scope pos) 0 it acc env)) := by rfl
theorem compTurn2D_in (kx vx t0 i0 t1 i1 : Expr) (ifs0 ifs1 : List Expr) (scope : Scope) (pos : Pos) (it : Value) (D : Addr) (env : Env) :
    compTurn (.DictComp kx vx [⟨t0, i0, ifs0, 0⟩, ⟨t1, i1, ifs1, 0⟩] scope pos) 1 it (.ref D) env = (do
      standAt i1.pos
      match ← pyNext it with
      | none => pure (.done .next)
      | some v =>
        letOwnedTupleGo t1 it v
        assign t1 env v
        let mut ok := true
        for c in ifs1 do
          if ok then ok ← isTrue c env (eval c env)
        if ok then
          (do
            let kv ← eval kx env
            let vv ← holding [kv] (eval vx env)
            standAt { kx.pos with endLine := vx.pos.endLine, endCol := vx.pos.endCol }
            holding [kv, vv] (dictSet D kv vv))
        again (.compLoop (.DictComp kx vx [⟨t0, i0, ifs0, 0⟩, ⟨t1, i1, ifs1, 0⟩] scope pos) 1 it (.ref D) env)) := by rfl
section
variable {prog : Program} {w : World} {A : Around} {R : Result → Shared → Prop} {s : Shared} {kx vx t0 i0 t1 i1 : Expr} {ifs0 ifs1 : List Expr} {scope : Scope} {pos : Pos} {it acc : Value} {env : Env} {D : Addr}
theorem compLoop2D_out (hs : ∀ x, foldedSetIterable i1 env x = pure x) (I : Nat → Shared → Prop)
    (turn : ∀ n s, I n s → wpAny (model prog w) A (pyNext it) (fun r s₁ => match r with
      | none => R (.ok .next) s₁
      | some v => wpAny (model prog w) A (letOwnedTupleGo t0 it v) (fun _ s₁' => wpAny (model prog w) A (assign t0 env v) (fun _ s₂ =>
          wpAny (model prog w) A (forIn ifs0 true fun c r => if r = true then do let ok ← isTrue c env (eval c env); pure (ForInStep.yield ok) else pure (ForInStep.yield r)) (fun ok s₃ =>
            if ok = true then wpAny (model prog w) A (eval i1 env) (fun x s₄ => wpAny (model prog w) A (pyIter x) (fun it1 s₅ =>
              codeAny (model prog w) A (.compStart (.DictComp kx vx [⟨t0, i0, ifs0, 0⟩, ⟨t1, i1, ifs1, 0⟩] scope pos) 1 it1 acc env) (fun r s' => match r with
                | .ok _ => ∃ m, m < n ∧ I m s'
                | .error _ => False) s₅) (notedBy (model prog w) A env fun e s' => R (.error e) s') s₄) (notedBy (model prog w) A env fun e s' => R (.error e) s') s₃
            else ∃ m, m < n ∧ I m s₃) (notedBy (model prog w) A env fun e s' => R (.error e) s') s₂) (notedBy (model prog w) A env fun e s' => R (.error e) s') s₁') (notedBy (model prog w) A env fun e s' => R (.error e) s') s₁) (notedBy (model prog w) A env fun e s' => R (.error e) s') s)
    (n : Nat) (h : I n s) :
    codeAny (model prog w) A (.compLoop (.DictComp kx vx [⟨t0, i0, ifs0, 0⟩, ⟨t1, i1, ifs1, 0⟩] scope pos) 0 it acc env) R s := by
  refine codeAny_loop rfl I (fun n s hI => ?_) n h
  show wpAny _ A ((compTurn (.DictComp kx vx [⟨t0, i0, ifs0, 0⟩, ⟨t1, i1, ifs1, 0⟩] scope pos) 0 it acc env).onRaise (fun x => do noteFrame x env; theTreesLotGoes x)) _ _ s
  refine wpAny_noted ?_
  rw [compTurn2D_out]
  refine wpAny_bind (wpAny_standAt (wpAny_bind (wpAny_mono (turn n s hI) (fun r s₁ h₁ => ?_) fun _ _ h' => h')))
  cases r with
  | none => exact wpAny_pure h₁
  | some v =>
    refine wpAny_bind (wpAny_mono h₁ (fun _ s₁' h₁' => ?_) fun _ _ h' => h')
    refine wpAny_bind (wpAny_mono h₁' (fun _ s₂ h₂ => wpAny_bind (wpAny_mono h₂ (fun ok s₃ h₃ => ?_) fun _ _ h' => h')) fun _ _ h' => h')
    cases ok with
    | false => exact wpAny_pure ⟨rfl, h₃⟩
    | true =>
      refine wpAny_bind (wpAny_mono h₃ (fun x s₄ h₄ => ?_) fun _ _ h' => h')
      refine wpAny_bind (wpAny_standAt (wpAny_bind (wpAny_of_eq (hs x) (wpAny_bind (wpAny_holding (wpAny_mono h₄ (fun it1 s₅ h₅ => ?_) fun _ _ h' => h'))))))
      refine wpAny_bind (wpAny_runOwn ?_)
      rw [Around.mark_none]
      refine codeAny_mono h₅ fun r s' hr => ?_
      cases r with
      | ok f =>
        first
          | exact wpAny_pure ⟨rfl, hr⟩
          | exact wpAny_bind (wpAny_pure (wpAny_pure ⟨rfl, hr⟩))
      | error e => exact hr.elim
theorem compLoop2D_in (I : Nat → Shared → Prop)
    (turn : ∀ n s, I n s → wpAny (model prog w) A (pyNext it) (fun r s₁ => match r with
      | none => R (.ok .next) s₁
      | some v => wpAny (model prog w) A (letOwnedTupleGo t1 it v) (fun _ s₁' => wpAny (model prog w) A (assign t1 env v) (fun _ s₂ =>
          wpAny (model prog w) A (forIn ifs1 true fun c r => if r = true then do let ok ← isTrue c env (eval c env); pure (ForInStep.yield ok) else pure (ForInStep.yield r)) (fun ok s₃ =>
            if ok = true then wpAny (model prog w) A (eval kx env) (fun kv s₄ => wpAny (model prog w) A (eval vx env) (fun vv s₅ =>
              wpAny (model prog w) A (dictSet D kv vv) (fun _ s₆ => ∃ m, m < n ∧ I m s₆) (notedBy (model prog w) A env fun e s' => R (.error e) s') s₅) (notedBy (model prog w) A env fun e s' => R (.error e) s') s₄) (notedBy (model prog w) A env fun e s' => R (.error e) s') s₃
            else ∃ m, m < n ∧ I m s₃) (notedBy (model prog w) A env fun e s' => R (.error e) s') s₂) (notedBy (model prog w) A env fun e s' => R (.error e) s') s₁') (notedBy (model prog w) A env fun e s' => R (.error e) s') s₁) (notedBy (model prog w) A env fun e s' => R (.error e) s') s)
    (n : Nat) (h : I n s) :
    codeAny (model prog w) A (.compLoop (.DictComp kx vx [⟨t0, i0, ifs0, 0⟩, ⟨t1, i1, ifs1, 0⟩] scope pos) 1 it (.ref D) env) R s := by
  refine codeAny_loop rfl I (fun n s hI => ?_) n h
  show wpAny _ A ((compTurn (.DictComp kx vx [⟨t0, i0, ifs0, 0⟩, ⟨t1, i1, ifs1, 0⟩] scope pos) 1 it (.ref D) env).onRaise (fun x => do noteFrame x env; theTreesLotGoes x)) _ _ s
  refine wpAny_noted ?_
  rw [compTurn2D_in]
  refine wpAny_bind (wpAny_standAt (wpAny_bind (wpAny_mono (turn n s hI) (fun r s₁ h₁ => ?_) fun _ _ h' => h')))
  cases r with
  | none => exact wpAny_pure h₁
  | some v =>
    refine wpAny_bind (wpAny_mono h₁ (fun _ s₁' h₁' => ?_) fun _ _ h' => h')
    refine wpAny_bind (wpAny_mono h₁' (fun _ s₂ h₂ => wpAny_bind (wpAny_mono h₂ (fun ok s₃ h₃ => ?_) fun _ _ h' => h')) fun _ _ h' => h')
    cases ok with
    | false => exact wpAny_pure ⟨rfl, h₃⟩
    | true =>
      exact wpAny_bind (wpAny_bind (wpAny_mono h₃ (fun kv s₄ h₄ => wpAny_bind (wpAny_holding (wpAny_mono h₄ (fun vv s₅ h₅ => wpAny_bind (wpAny_standAt (wpAny_holding (wpAny_mono h₅ (fun _ s₆ h₆ => wpAny_pure ⟨rfl, h₆⟩) fun _ _ h' => h')))) fun _ _ h' => h'))) fun _ _ h' => h'))
theorem compStart1D_ok (h0 : codeAny (model prog w) A (.compLoop (.DictComp kx vx [⟨t0, i0, ifs0, 0⟩, ⟨t1, i1, ifs1, 0⟩] scope pos) 1 it acc env) R s)
    (h : wpAny (model prog w) A (pyIter it) (fun it' s' => codeAny (model prog w) A (.compLoop (.DictComp kx vx [⟨t0, i0, ifs0, 0⟩, ⟨t1, i1, ifs1, 0⟩] scope pos) 1 it' acc env) R s')
      (notedBy (model prog w) A env fun x s' => R (.error x) s') s) :
    codeAny (model prog w) A (.compStart (.DictComp kx vx [⟨t0, i0, ifs0, 0⟩, ⟨t1, i1, ifs1, 0⟩] scope pos) 1 it acc env) R s := by
  refine codeAny_of_tree ?_
  show wpAny _ _ ((compStart (.DictComp kx vx [⟨t0, i0, ifs0, 0⟩, ⟨t1, i1, ifs1, 0⟩] scope pos) 1 it acc env).onRaise (fun x => do noteFrame x env; standAt theWindowsPlace)) _ _ s
  refine wpAny_notedAt ?_
  unfold compStart
  show wpAny _ _ (ask >>= _) _ _ s
  refine wpAny_bind (wpAny_askSetting (wpAny_ite ?_))
  split
  · first
      | exact wpAny_bind (wpAny_pure (wpAny_pure (And.intro rfl h0)))
      | exact wpAny_pure (And.intro rfl h0)
  · first
      | exact wpAny_bind (wpAny_rule (wpAny_bind (wpAny_standAt (wpAny_bind (wpAny_mono h (fun it' s' h' => wpAny_pure (And.intro rfl h')) fun _ _ x => x)))))
      | (refine wpAny_bind (wpAny_rule ?_); show wpAny _ _ (standAt i1.pos >>= _) _ _ s; exact wpAny_bind (wpAny_standAt (wpAny_bind (wpAny_mono h (fun it' s' h' => wpAny_pure (And.intro rfl h')) fun _ _ x => x))))
end
section
variable {X : Cx}
def tDG2 (o0 : HO) (wi : TI) (g : TG) (wi1 : TI) (g1 : TG) (tt1 : TT) (tk tv : TE) (vs vs1 : List Nat) : TE := fun σ H Q => wi σ H fun J H1 => ∀ D, H1 D = none → ∃ U : Nat → Nat → Hp → Prop, (∃ m, U 0 m (upd H1 D o0)) ∧ ∀ i m H, U i m H →
  (J.stop i H ∧ Q (.ref D) H) ∨ (J.go i H ∧ ∃ Nx : Hp → Prop, (∀ H', Nx H' → ∃ m', m' < m ∧ U (i + 1) m' H') ∧ ∀ x H', J.yld i H x H' → g x (wipe σ vs) H' fun σ2 H2 => wipe σ2 vs = wipe σ vs ∧
    wi1 σ2 H2 fun J1 H4 => ∃ U1 : Nat → Nat → Hp → Prop, (∃ m, U1 0 m H4) ∧ ∀ j k H, U1 j k H →
      (J1.stop j H ∧ Nx H) ∨ (J1.go j H ∧ ∃ Nx1 : Hp → Prop, (∀ H', Nx1 H' → ∃ k', k' < k ∧ U1 (j + 1) k' H') ∧ ∀ x H', J1.yld j H x H' → g1 x (wipe σ2 vs1) H' fun σ3 H5 => wipe σ3 vs1 = wipe σ2 vs1 ∧ tt1 σ3 H5 fun b H6 =>
        if b = true then tk σ3 H6 fun y H7 => tv σ3 H7 fun z H8 => ∃ H9, DPut H8 D y z H9 ∧ Nx1 H9 else Nx1 H6))
theorem dg2_core {o0 : HO} {pins : List (Addr × Obj)} {s : Shared} {σ : L2.St} {H : Hp} {Q : VK} {kx vx tg iter tg1 iter1 : Expr} {ifs1 : List Expr} {scope : Scope} {own : List (Str × Nat)} {vs1 : List Nat} {p1 p2 : Pos} {wi wi1 : TI} {g g1 : TG} {tt1 : TT} {tk tv : TE} {use : Option (Value → Sem Unit)} {Qf : Value → Shared → Prop}
    (he0 : Emp o0) (hu : X.A.units + 1 < cLine) (hc : X.calm = true) (hN : X.N.Nodup) (I : Inv X pins σ H s) (hi : PI X tg iter wi) (ok : BlkOk X.N X.env.scope scope own) (hv : ∀ i ∈ vs1, i ∈ own.map (·.2))
    (hg : ∀ (s : Shared) (H : Hp) (C : Addr) (cl : List (Str × Addr)) (fp : List Addr), PG (X.blk s H scope (compEnvC scope cl C X.env) fp) tg g)
    (hi1 : ∀ (s : Shared) (H : Hp) (C : Addr) (cl : List (Str × Addr)) (fp : List Addr), PI (X.blk s H scope (compEnvC scope cl C X.env) fp) tg1 iter1 wi1)
    (hg1 : ∀ (s : Shared) (H : Hp) (C : Addr) (cl : List (Str × Addr)) (fp : List Addr), PG (X.blk s H scope (compEnvC scope cl C X.env) fp) tg1 g1)
    (ht1 : ∀ (s : Shared) (H : Hp) (C : Addr) (cl : List (Str × Addr)) (fp : List Addr), PTs (X.blk s H scope (compEnvC scope cl C X.env) fp) ifs1 tt1)
    (hk : ∀ (s : Shared) (H : Hp) (C : Addr) (cl : List (Str × Addr)) (fp : List Addr), PE (X.blk s H scope (compEnvC scope cl C X.env) fp) kx tk) (hvx : ∀ (s : Shared) (H : Hp) (C : Addr) (cl : List (Str × Addr)) (fp : List Addr), PE (X.blk s H scope (compEnvC scope cl C X.env) fp) vx tv)
    (hs : ∀ x, foldedSetIterable iter X.env x = pure x) (hs1 : ∀ env x, foldedSetIterable iter1 env x = pure x)
    (h : tDG2 o0 wi g wi1 g1 tt1 tk tv (own.map (·.2)) vs1 σ H Q)
    (fin0 : ∀ D C t m H', Inv X pins σ H' t → Q (.ref D) H' → t.heap.Ns C m → FpOk X pins H' C → compPost (model X.prog X.w) X.A X.xe use Qf (.ref D) C (.ok .next) t) :
    wpAny (model X.prog X.w) X.A (comprehension (.DictComp kx vx [⟨tg, iter, [], 0⟩, ⟨tg1, iter1, ifs1, 0⟩] scope p1) scope X.env p2 newDict false (eval iter X.env) use) Qf X.xe s := by
  have caught : ∀ y ∈ scope.names, y.2 = .free → ∃ c, X.env.cells.lookup y.1 = some c := fun y hy e => (ok.free y hy e).elim (fun k => I.ok.has _ (.inl k)) fun k => I.ok.has _ (.inr k)
  refine wpAny_comprehension_free (use := use) rfl hs (closure_ok caught) ok.kind (fun y hy e => by rw [ok.uniq y hy, e]) (thn (hi.run pins s σ H _ I h) fun xv t1 hx => thn hx fun itv t2 z => ?_)
  obtain ⟨it, fp, tn, J, H2, e, I2, T, at0, f2, q⟩ := z
  subst e
  refine wpAny_newObj_type (newEnv_comp ?_)
  generalize eD : t2.heap.objs.size = D
  have gone : H2 D = none := I2.hok.fresh (Nat.le_of_eq eD)
  obtain ⟨U, ⟨m0, u0⟩, turn⟩ := q D gone
  generalize e3 : ({ t2 with heap := t2.heap.push { cls := .type "dict", data := .dict #[] } } : Shared) = t3
  have I3 : Inv X pins σ (upd H2 D o0) t3 := by
    subst e3; subst eD
    exact I2.laid (t' := t2.toks) (fun b o e => Heap.get?_push_of_some _ e) (Nat.le_refl _) (he0.ok t2.heap I2.big)
  have k3 : t3.heap = t2.heap.push { cls := .type "dict", data := .dict #[] } := by subst e3; rfl
  have below : ∀ b ∈ fp, b < t2.heap.objs.size := fun b hb => let ⟨o, e, _⟩ := T.obj _ _ at0 b hb; Heap.lt_size e
  have f3 : ∀ b ∈ fp, FpOk X pins (upd H2 D o0) b ∧ b < t3.heap.objs.size := fun b hb => by
    have lt := below b hb
    have ne : b ≠ D := by rw [← eD]; exact Nat.ne_of_lt lt
    exact ⟨⟨by rw [upd_ne ne]; exact (f2 b hb).1, (f2 b hb).2⟩, by rw [k3, Heap.size_push]; exact Nat.lt_succ_of_lt lt⟩
  have at3 : tn 0 t3.heap := T.keep _ _ _ at0 fun b _ o e => by rw [k3]; exact Heap.get?_push_of_some _ e
  have I4 := block_start I3 ok hN f3
  generalize ecl : cellsFrom (t3.heap.objs.size + 1) scope.names (cloFrom X.env.cells scope.names []) = cl at I4
  have pg := hg t3 (upd H2 D o0) t3.heap.objs.size cl fp
  have pi1 := hi1 t3 (upd H2 D o0) t3.heap.objs.size cl fp
  have pg1 := hg1 t3 (upd H2 D o0) t3.heap.objs.size cl fp
  have pt1 := ht1 t3 (upd H2 D o0) t3.heap.objs.size cl fp
  have pk := hk t3 (upd H2 D o0) t3.heap.objs.size cl fp
  have pe := hvx t3 (upd H2 D o0) t3.heap.objs.size cl fp
  subst ecl
  show codeAny _ _ (.compStart (.DictComp kx vx [⟨tg, iter, [], 0⟩, ⟨tg1, iter1, ifs1, 0⟩] scope p1) 0 (.ref it) (.ref D) (compEnvC scope (cellsFrom (t3.heap.objs.size + 1) scope.names (cloFrom X.env.cells scope.names [])) t3.heap.objs.size X.env)) (compPost (model X.prog X.w) X.A X.xe use Qf (.ref D) t3.heap.objs.size) { t3 with heap := pushCells (t3.heap.push { cls := .type "dict", data := .dict #[] }) scope.names }
  have nofp : ∀ b ∈ fp, (upd H2 D o0) b = none := fun b hb => (f3 b hb).1.1
  generalize ee : compEnvC scope (cellsFrom (t3.heap.objs.size + 1) scope.names (cloFrom X.env.cells scope.names [])) t3.heap.objs.size X.env = ce at I4 pg pi1 pg1 pt1 pk pe ⊢
  have eL : ce.locals = t3.heap.objs.size := by subst ee; rfl
  generalize eH : upd H2 D o0 = H3 at I3 I4 pg pi1 pg1 pt1 pk pe u0 nofp f3
  generalize e4 : ({ t3 with heap := pushCells (t3.heap.push { cls := .type "dict", data := .dict #[] }) scope.names } : Shared) = t4 at I4 ⊢
  have at4 : tn 0 t4.heap := T.keep _ _ _ at3 fun b _ o e => by subst e4; exact pushCells_keeps _ _ _ _ (Heap.get?_push_of_some _ e)
  have still : ∀ {τ : L2.St} {H' : Hp} {t : Shared}, Inv (X.blk t3 H3 scope ce fp) [] τ H' t → (∀ b ∈ fp, H' b = none) → ∀ b ∈ fp, FpOk (X.blk t3 H3 scope ce fp) [] H' b := fun {τ H' t} J' n b hb => ⟨n b hb, (J'.ok.exf b hb).1, J'.ok.exfs b hb, .inl hb, fun x c e => (J'.ok.exf b hb).2 x c e, fun p hp => by cases hp⟩
  have loop : codeAny (model X.prog X.w) X.A (.compLoop (.DictComp kx vx [⟨tg, iter, [], 0⟩, ⟨tg1, iter1, ifs1, 0⟩] scope p1) 0 (.ref it) (.ref D) ce) (compPost (model X.prog X.w) X.A X.xe use Qf (.ref D) t3.heap.objs.size) t4 := by
    refine compLoop2D_out (hs1 ce) (fun n t => ∃ i H', Inv (X.blk t3 H3 scope ce fp) [] (wipe σ (own.map (·.2))) H' t ∧ tn i t.heap ∧ (∀ b ∈ fp, H' b = none) ∧ U i n H') ?_ m0 ⟨0, H3, I4, at4, nofp, u0⟩
    rintro n t5 ⟨i, H5, I5, at5, n5, u5⟩
    rcases turn i n H5 u5 with ⟨stop, qq⟩ | ⟨go, Nx, more, step⟩
    · refine thnF (T.done (X.blk t3 H3 scope ce fp) rfl rfl rfl hc i [] t5 _ H5 (fun _ _ => False) I5 (still I5 n5) at5 stop) fun r t6 ⟨hr, I6⟩ => ?_
      subst hr
      have I7 : Inv X pins σ H5 t6 := I3.call' (ch := fp) I6.os I6.base I6.hok I6.bare fun b hb => let ⟨_, c1, c2, c3, c4, c5⟩ := (f3 b hb).1; ⟨c3, c1, c4, c5⟩
      have nC : H5 t3.heap.objs.size = none := by rw [← eL]; exact I6.free
      obtain ⟨m, hn, _⟩ := I6.loc
      have hn2 : t6.heap.Ns t3.heap.objs.size m := by rw [← eL]; exact hn
      exact fin0 D t3.heap.objs.size t6 m H5 I7 qq hn2 (I3.fpOk (Nat.le_refl _) nC)
    · refine thnF (T.item (X.blk t3 H3 scope ce fp) rfl rfl rfl hc i [] t5 _ H5 (fun _ _ => False) I5 (still I5 n5) at5 go) fun r t6 ⟨u, hr, h6⟩ => ?_
      subst hr
      refine thnF h6 fun _ s7 ⟨x, H7, I7, r7, y7, st7, n7⟩ => ?_
      have I7' := I7.pinned (still I7 n7) (T.obj _ _ st7)
      refine thnF (pg.run _ s7 _ H7 x u _ I7' r7 (step x H7 y7)) fun _ s8 ⟨σ8, H8, I8, hw8, q8⟩ => ?_
      refine thnF ((pts_nil (X := X.blk t3 H3 scope ce fp)).run _ s8 σ8 H8 (fun b H' => b = true ∧ H' = H8) I8 (And.intro rfl rfl)) fun b s9 ⟨H9, I9, eb, eH9⟩ => ?_
      subst eb eH9
      -- the turn's end
      have fin : ∀ {σ9 : L2.St} {s' : Shared} {H' : Hp}, Inv (X.blk t3 H3 scope ce fp) ([] ++ pinsAt fp s7.heap) σ9 H' s' → (wipe σ (own.map (·.2))).length = σ9.length → (∀ (j : Nat) v, (wipe σ (own.map (·.2)))[j]? = some (some v) → σ9[j]? = some (some v)) → Nx H' →
          ∃ m, m < n ∧ ∃ i H', Inv (X.blk t3 H3 scope ce fp) [] (wipe σ (own.map (·.2))) H' s' ∧ tn i s'.heap ∧ (∀ b ∈ fp, H' b = none) ∧ U i m H' := fun {σ9 s' H'} I' hl hk nx => by
        obtain ⟨m', hm, w'⟩ := more H' nx
        have pin' : ∀ b ∈ fp, ∀ o, s7.heap.get? b = some o → s'.heap.get? b = some o ∧ H' b = none := fun b hb o e =>
          let z := I'.pin (b, o) (List.mem_append_right _ (List.mem_append_right _ (mem_pinsAt hb e)))
          ⟨z.1, z.2.1⟩
        refine ⟨m', hm, i + 1, H', (I'.unpinned (pins := [])).weak hl hk, T.keep _ _ _ st7 fun b hb o e => (pin' b hb o e).1, fun b hb => ?_, w'⟩
        obtain ⟨o, e, _⟩ := T.obj _ _ st7 b hb
        exact (pin' b hb o e).2
      have hl8 : (wipe σ (own.map (·.2))).length = σ8.length := by rw [← hw8, wipe_length]
      have hk9 : ∀ (j : Nat) v, (wipe σ (own.map (·.2)))[j]? = some (some v) → (wipe σ8 vs1)[j]? = some (some v) := fun j v e => by
        rw [← hw8] at e
        obtain ⟨e1, e2⟩ := wipe_some e
        rw [wipe_out fun z => e2 (hv j z)]
        exact e1
      rw [if_pos rfl]
      refine thnF (pi1.run _ s9 σ8 H9 _ I9 q8) fun xv s10 hx => thnF hx fun itv s11 h11 => ?_
      obtain ⟨it1, fp1, tn1, J1, H11, e1, I11, T1, st11, f11, W1, ⟨m1, w1⟩, turn1⟩ := h11
      subst e1
      have stat1 : ∀ {H' : Hp}, (∀ b ∈ fp1, H' b = none) → ∀ b ∈ fp1, FpOk (X.blk t3 H3 scope ce fp) ([] ++ pinsAt fp s7.heap) H' b := fun hn b hb => ⟨hn b hb, (f11 b hb).2⟩
      have loop1 : codeAny (model X.prog X.w) X.A (.compLoop (.DictComp kx vx [⟨tg, iter, [], 0⟩, ⟨tg1, iter1, ifs1, 0⟩] scope p1) 1 (.ref it1) (.ref D) ce)
          (fun r s' => match r with
            | .ok _ => ∃ m, m < n ∧ ∃ i H', Inv (X.blk t3 H3 scope ce fp) [] (wipe σ (own.map (·.2))) H' s' ∧ tn i s'.heap ∧ (∀ b ∈ fp, H' b = none) ∧ U i m H'
            | .error _ => False) s11 := by
        refine compLoop2D_in (fun k s' => ∃ j H', Inv (X.blk t3 H3 scope ce fp) ([] ++ pinsAt fp s7.heap) (wipe σ8 vs1) H' s' ∧ tn1 j s'.heap ∧ (∀ b ∈ fp1, H' b = none) ∧ W1 j k H') ?_ m1 ⟨0, H11, I11.weak (wipe_length _ _) (fun j v e => (wipe_some e).1), st11, fun b hb => (f11 b hb).1, w1⟩
        rintro k s12 ⟨j, H12, I12, st12, n12, w12⟩
        rcases turn1 j k H12 w12 with ⟨stop1, nx1⟩ | ⟨go1, Nx1, hNx1, step1⟩
        · refine thnF (T1.done (X.blk t3 H3 scope ce fp) rfl rfl rfl hc j _ s12 (wipe σ8 vs1) H12 (fun _ _ => False) I12 (stat1 n12) st12 stop1) fun r s13 ⟨hr, I13⟩ => ?_
          subst hr
          exact fin I13 (hl8.trans (wipe_length σ8 vs1).symm) hk9 nx1
        · refine thnF (T1.item (X.blk t3 H3 scope ce fp) rfl rfl rfl hc j _ s12 (wipe σ8 vs1) H12 (fun _ _ => False) I12 (stat1 n12) st12 go1) fun r s13 ⟨u1, hr, h13⟩ => ?_
          subst hr
          refine thnF h13 fun _ s14 ⟨x1, H14, I14, r14, y14, st14, n14⟩ => ?_
          have I14' := I14.pinned (stat1 n14) (T1.obj _ _ st14)
          refine thnF (pg1.run _ s14 (wipe σ8 vs1) H14 x1 u1 _ I14' r14 (step1 x1 H14 y14)) fun _ s15 ⟨σ15, H15, I15, hw15, q15⟩ => ?_
          refine thnF (pt1.run _ s15 σ15 H15 _ I15 q15) fun b1 s16 ⟨H16, I16, q16⟩ => ?_
          have fin1 : ∀ {s' : Shared} {H' : Hp}, Inv (X.blk t3 H3 scope ce fp) (([] ++ pinsAt fp s7.heap) ++ pinsAt fp1 s14.heap) σ15 H' s' → Nx1 H' → ∃ m, m < k ∧ ∃ j H', Inv (X.blk t3 H3 scope ce fp) ([] ++ pinsAt fp s7.heap) (wipe σ8 vs1) H' s' ∧ tn1 j s'.heap ∧ (∀ b ∈ fp1, H' b = none) ∧ W1 j m H' := fun {s' H'} I' nx => by
            obtain ⟨m', hm, w'⟩ := hNx1 H' nx
            have pin' : ∀ b ∈ fp1, ∀ o, s14.heap.get? b = some o → s'.heap.get? b = some o ∧ H' b = none := fun b hb o e =>
              let z := I'.pin (b, o) (List.mem_append_right _ (List.mem_append_right _ (mem_pinsAt hb e)))
              ⟨z.1, z.2.1⟩
            refine ⟨m', hm, j + 1, H', I'.unpinned.weak (by rw [← hw15, wipe_length]) (fun j v e => by rw [← hw15] at e; exact (wipe_some e).1), T1.keep _ _ _ st14 fun b hb o e => (pin' b hb o e).1, fun b hb => ?_, w'⟩
            obtain ⟨o, e, _⟩ := T1.obj _ _ st14 b hb
            exact (pin' b hb o e).2
          cases b1 with
          | false =>
            simp only [Bool.false_eq_true, if_false] at q16 ⊢
            exact fin1 I16 q16
          | true =>
            simp only [if_true] at q16 ⊢
            exact thnF (pk.run _ s16 σ15 H16 _ I16 q16) fun z ta ⟨yk, Ha, Ia, ra, qa⟩ => thnF (pe.run _ ta σ15 Ha _ Ia qa) fun z2 tb ⟨yv, Hb, Ib, rb, H6, put, nx⟩ => dset (X := X.blk t3 H3 scope ce fp) hu Ib put ra rb fun tc Ic => fin1 Ic nx
      exact compStart1D_ok loop1 (T1.self X.A 0 _ _ _ st11 loop1)
  exact codeAny_compStart_dict loop (T.self X.A 0 _ _ _ at4 loop)
theorem pe_dG2 {o0 : HO} {kx vx tg iter tg1 iter1 : Expr} {ifs1 : List Expr} {scope : Scope} {own : List (Str × Nat)} {vs1 : List Nat} {pos : Pos} {wi wi1 : TI} {g g1 : TG} {tt1 : TT} {tk tv : TE} (he0 : Emp o0) (hu : X.A.units + 1 < cLine) (hc : X.calm = true) (hN : X.N.Nodup) (hi : PI X tg iter wi) (ok : BlkOk X.N X.env.scope scope own) (hv : ∀ i ∈ vs1, i ∈ own.map (·.2))
    (hg : ∀ (s : Shared) (H : Hp) (C : Addr) (cl : List (Str × Addr)) (fp : List Addr), PG (X.blk s H scope (compEnvC scope cl C X.env) fp) tg g)
    (hi1 : ∀ (s : Shared) (H : Hp) (C : Addr) (cl : List (Str × Addr)) (fp : List Addr), PI (X.blk s H scope (compEnvC scope cl C X.env) fp) tg1 iter1 wi1)
    (hg1 : ∀ (s : Shared) (H : Hp) (C : Addr) (cl : List (Str × Addr)) (fp : List Addr), PG (X.blk s H scope (compEnvC scope cl C X.env) fp) tg1 g1)
    (ht1 : ∀ (s : Shared) (H : Hp) (C : Addr) (cl : List (Str × Addr)) (fp : List Addr), PTs (X.blk s H scope (compEnvC scope cl C X.env) fp) ifs1 tt1)
    (hk : ∀ (s : Shared) (H : Hp) (C : Addr) (cl : List (Str × Addr)) (fp : List Addr), PE (X.blk s H scope (compEnvC scope cl C X.env) fp) kx tk) (hvx : ∀ (s : Shared) (H : Hp) (C : Addr) (cl : List (Str × Addr)) (fp : List Addr), PE (X.blk s H scope (compEnvC scope cl C X.env) fp) vx tv)
    (hs : ∀ x, foldedSetIterable iter X.env x = pure x := by intro _; rfl) (hs1 : ∀ env x, foldedSetIterable iter1 env x = pure x := by intro _ _; rfl) :
    PE X (.DictComp kx vx [⟨tg, iter, [], 0⟩, ⟨tg1, iter1, ifs1, 0⟩] scope pos) (tDG2 o0 wi g wi1 g1 tt1 tk tv (own.map (·.2)) vs1) := ⟨fun pins s σ H Q I h => by
  rw [arm_eval_DictComp]
  exact dg2_core he0 hu hc hN I hi ok hv hg hi1 hg1 ht1 hk hvx hs hs1 h fun D C t m H' J' q hn f => ⟨m, hn, fun h'' sb => let ⟨f0, f1, f2, f3, f4, f5⟩ := f; ⟨.ref D, H', J'.turned (t' := t.toks) (fun b o hb e => (sb.2 b hb).trans e) f0 f1 f3 f4 f5, rfl, q⟩⟩⟩
end
end DW
set_option Elab.async false
set_option linter.all false
set_option maxRecDepth 100000
set_option maxHeartbeats 4000000
namespace FW
open PySem PySem.Spec L2 DW
section
variable {K : PySem.W.Frag} {w : Option Dw} {G : Gd} {F F1 F2 H H1 H2 : Hp} {σ σ2 : L2.St} {δ δ2 : DEnv}
variable {X : Cx} {W : WX} {st : Bool} {tg iter tg1 iter1 e a b c elt kx vx : Expr} {es rest : List Expr} {fe fa fb fc fo fk fv : FE} {ft fu : FT} {faa : FA} {fi fi1 : FI} {fg fg1 : FG} {fgs : FGs} {pos p np p2 : Pos} {ts us : List Nat} {s : Stmt} {body : List Stmt}
/-! ### {k: v for .. in .. for .. in .. if ..} -/
def dc2F (g1 : FG) (i2 : FI) (g2 : FG) (t : FT) (fk fv : FE) (vs2 : List Nat) (δ0 : DEnv) : List D → SV → Tr SV
  | [], s => .ok s
  | d :: ds, s => (calm (g1 d δ0)).bind fun δ1 => (calm (i2 δ1)).bind fun items => (dcF g2 t fk fv (wipeD δ1 vs2) items s).bind fun s' => dc2F g1 i2 g2 t fk fv vs2 δ0 ds s'
def fDc2 (s0 : SV) (i1 : FI) (g1 : FG) (i2 : FI) (g2 : FG) (t : FT) (fk fv : FE) (vs vs2 : List Nat) : FE := fun δ => (i1 δ).bind fun items => (dc2F g1 i2 g2 t fk fv vs2 (wipeD δ vs) items s0).bind fun s => .ok s.rO
theorem dc2_of {o0 : HO} {s0 : SV} {ts1 ts2 vs vs2 : List Nat} {tt : TT} {tk tv : TE} (em : Em o0 s0) (h1 : ∀ t ∈ ts1, t ∈ vs) (h2 : ∀ t ∈ ts2, t ∈ vs2) (ht : ∀ σ H Q, dTT K G wTrue (wT K ft) σ H Q → tt σ H Q) (hk : ∀ σ H Q, dT K G wTrue (wE K fk) σ H Q → tk σ H Q) (hv : ∀ σ H Q, dT K G wTrue (wE K fv) σ H Q → tv σ H Q)
    {σ : L2.St} {H : Hp} {Q : VK} (h : dT K G W (wE K (fDc2 s0 fi fg fi1 fg1 ft fk fv vs vs2)) σ H Q) : tDG2 o0 (dTI K G W st (wI K fi)) (dGTo K G ts1 (wG fg)) (dTI K G wTrue true (wI K fi1)) (dGT K G ts2 (wG fg1)) tt tk tv vs vs2 σ H Q := by
  obtain ⟨F, δ, P, PX, S, q, k, xk⟩ := h
  refine ⟨F, δ, _, PX, S, Tr.sat_bind.mp q, fun J C F1 H1 items x1 c1 dw stc p1 => fun D hD => ?_, xk⟩
  obtain ⟨x1', n1, nd⟩ := new_dict (u := o0) x1.stay hD
  have d0 : DictAt K F1 o0 s0 := by
    rcases em with ⟨rfl, rfl⟩ | ⟨rfl, rfl⟩
    · exact ⟨[], rfl, .nil⟩
    · exact ⟨[], rfl, .nil⟩
  refine ⟨fun i m H => m = items.length - i ∧ i ≤ items.length ∧ ∃ F u sv, Ext G.w F1 H1 F H ∧ H D = some u ∧ F D = none ∧ DictAt K F u sv ∧ (dc2F fg fi1 fg1 ft fk fv vs2 (wipeD δ vs) (items.drop i) sv).sat (fun s => P s.rO) (fun _ => True),
    ⟨_, rfl, Nat.zero_le _, F1, o0, s0, x1', upd_same, n1, d0, Tr.sat_mono (Tr.sat_bind.mp p1) (fun _ h => h) fun _ _ => trivial⟩, ?_⟩
  rintro i m H ⟨rfl, hi, F, u, sv, x2, hDl, hDf, da, go⟩
  obtain ⟨w1, w2, w3⟩ := dw F H (stc.ext c1 x2) x2.stay
  by_cases hlt : i < items.length
  · refine .inr ⟨w1 i hlt, fun H' => i + 1 ≤ items.length ∧ ∃ F u sv, Ext G.w F1 H1 F H' ∧ H' D = some u ∧ F D = none ∧ DictAt K F u sv ∧ (dc2F fg fi1 fg1 ft fk fv vs2 (wipeD δ vs) (items.drop (i + 1)) sv).sat (fun s => P s.rO) (fun _ => True),
      fun H' n => ⟨items.length - (i + 1), by omega, rfl, n⟩, fun x H' y => ?_⟩
    have hd : items[i]? = some items[i] := List.getElem?_eq_getElem hlt
    have hdrop : items.drop i = items[i] :: items.drop (i + 1) := List.drop_eq_getElem_cons hlt
    rw [hdrop] at go
    obtain ⟨F', x3, rd⟩ := w3 i x H' _ hd y
    have S0 := (S.to x1).wipe vs
    have S' : RepS K G F' H' (L2.wipe σ vs) (wipeD δ vs) := (S.to (x1.trans (x2.trans x3))).wipe vs
    refine ⟨F', wipeD δ vs, _, _, S', rd, calm_sat (Tr.sat_bind.mp go), fun σ2 δ2 o2 S2 own2 p2 => ⟨wipe_only o2 h1, ?_⟩⟩
    obtain ⟨hD', hDf'⟩ := x3.keepN hDl hDf nd da.nt
    refine ⟨F', δ2, _, fun _ => False, S2, calm_sat (Tr.sat_bind.mp p2), fun J1 C1 F2 H2 items1 y1 cc1 dw1 stc1 q1 => ?_, xok_true⟩
    have hD2 := y1.keepN hD' hDf' nd da.nt
    refine ⟨fun j k H => k = items1.length - j ∧ j ≤ items1.length ∧ ∃ F u sv, Ext G.w F1 H1 F H ∧ Sub F2 F ∧ H D = some u ∧ F D = none ∧ DictAt K F u sv ∧
      dcGo (wG fg1) (wT K ft) (wE K fk) (wE K fv) (fun sv' => (dc2F fg fi1 fg1 ft fk fv vs2 (wipeD δ vs) (items.drop (i + 1)) sv').sat (fun s => P s.rO) (fun _ => True)) (wipeD δ2 vs2) (items1.drop j) sv,
      ⟨_, rfl, Nat.zero_le _, F2, u, sv, (x2.trans x3).trans y1, Sub.refl, hD2.1, hD2.2, da.mono (x3.trans y1).fs, dcF_ok _ _ (Tr.sat_mono (Tr.sat_bind.mp q1) (fun _ h => Tr.sat_mono h (fun _ h => h) fun _ _ => trivial) fun _ _ => trivial : (dcF fg1 ft fk fv (wipeD δ2 vs2) items1 sv).sat _ (fun _ => True))⟩, ?_⟩
    rintro j n H3 ⟨rfl, hj, F3, u3, sv3, z3, s3, hD3, hDf3, da3, go3⟩
    have cc3 : C1 F3 H3 := by
      unfold StC at stc1
      rw [if_pos rfl] at stc1
      exact stc1 F2 H2 F3 H3 cc1 s3 z3.le
    obtain ⟨v1, v2, v3⟩ := dw1 F3 H3 cc3 z3.stay
    by_cases hlt1 : j < items1.length
    · refine .inr ⟨v1 j hlt1, fun H' => j + 1 ≤ items1.length ∧ ∃ F u sv, Ext G.w F1 H1 F H' ∧ Sub F2 F ∧ H' D = some u ∧ F D = none ∧ DictAt K F u sv ∧
        dcGo (wG fg1) (wT K ft) (wE K fk) (wE K fv) (fun sv' => (dc2F fg fi1 fg1 ft fk fv vs2 (wipeD δ vs) (items.drop (i + 1)) sv').sat (fun s => P s.rO) (fun _ => True)) (wipeD δ2 vs2) (items1.drop (j + 1)) sv,
        fun H' n => ⟨items1.length - (j + 1), by omega, rfl, n⟩, fun x4 H4 y4 => ?_⟩
      have hd1 : items1[j]? = some items1[j] := List.getElem?_eq_getElem hlt1
      have hdrop1 : items1.drop j = items1[j] :: items1.drop (j + 1) := List.drop_eq_getElem_cons hlt1
      rw [hdrop1] at go3
      obtain ⟨F4, x5, rd4⟩ := v3 j x4 H4 _ hd1 y4
      have S4 : RepS K G F4 H4 σ2 δ2 := RepS.mix S0 S2 own2 (z3.trans x5) (y1.fs.trans (s3.trans x5.fs))
      refine ⟨F4, wipeD δ2 vs2, _, _, S4.wipe vs2, rd4, go3, fun σ5 δ5 o5 S5 p5 => ⟨wipe_only o5 h2, ?_⟩⟩
      refine ht _ _ _ ⟨F4, δ5, _, _, S5, p5, fun b F6 H6 x6 p6 => ?_, xok_true⟩
      cases b with
      | false =>
        rw [if_neg Bool.false_ne_true] at p6 ⊢
        have x7 := x5.trans x6
        obtain ⟨h', n'⟩ := x7.keepN hD3 hDf3 nd da3.nt
        exact ⟨hlt1, F6, u3, sv3, z3.trans x7, s3.trans x7.fs, h', n', da3.mono x7.fs, p6⟩
      | true =>
        rw [if_pos rfl] at p6 ⊢
        refine hk _ _ _ ⟨F6, δ5, _, _, S5.to x6, p6, fun yv F7 H7 r x7 q7 ⟨kd, ek, p7⟩ => ?_, xok_true⟩
        subst ek
        refine hv _ _ _ ⟨F7, δ5, _, _, (S5.to x6).to x7, p7, fun zv F8 H8 r x8 q8 ⟨v, er, pe⟩ => ?_, xok_true⟩
        obtain ⟨F9, x9, _, rd'⟩ := q8.freeze x8 er
        have x10 := ((x5.trans x6).trans x7).trans x9
        obtain ⟨h', n'⟩ := x10.keepN hD3 hDf3 nd da3.nt
        have da' := da3.mono x10.fs
        have q7' := RepD.mono x9.fs q7
        have fin : ∀ {u' : HO} {sv' : SV}, DictAt K F9 u' sv' → dcGo (wG fg1) (wT K ft) (wE K fk) (wE K fv) (fun sv' => (dc2F fg fi1 fg1 ft fk fv vs2 (wipeD δ vs) (items.drop (i + 1)) sv').sat (fun s => P s.rO) (fun _ => True)) (wipeD δ2 vs2) (items1.drop (j + 1)) sv' →
            j + 1 ≤ items1.length ∧ ∃ F u sv, Ext G.w F1 H1 F (upd H8 D u') ∧ Sub F2 F ∧ (upd H8 D u') D = some u ∧ F D = none ∧ DictAt K F u sv ∧ dcGo (wG fg1) (wT K ft) (wE K fk) (wE K fv) (fun sv' => (dc2F fg fi1 fg1 ft fk fv vs2 (wipeD δ vs) (items.drop (i + 1)) sv').sat (fun s => P s.rO) (fun _ => True)) (wipeD δ2 vs2) (items1.drop (j + 1)) sv := fun {u' sv'} da2 p5 =>
          ⟨hlt1, F9, u', sv', (z3.trans x10).write hD h' n' nd, s3.trans x10.fs, upd_same, n', da2, p5⟩
        cases sv3 with
        | oK kvs =>
          obtain ⟨kk, ek, hl, p5⟩ := pe
          obtain ⟨us, rfl, l⟩ := da'
          obtain rfl := RepD.key q7' ek
          exact ⟨_, DPut.k h' (by rw [RepKV.length l]; exact hl), fin (sv' := .oK (putD kvs kk v)) ⟨_, rfl, l.put rd'⟩ p5⟩
        | oT kvs =>
          obtain ⟨ds, ks, rfl, ek, hl, p5⟩ := pe
          obtain ⟨us, rfl, l⟩ := da'
          obtain ⟨b, vs', rfl, hb, lb⟩ := RepR.tuple (K := K) (w := G.w) (H := H8) x9.le (r := .im (.tuple ds)) q7' (xs := ds) rfl
          obtain rfl := RepL.keys lb ek
          exact ⟨_, DPut.t h' (x9.le _ _ hb) (by rw [RepKV.length l]; exact hl), fin (sv' := .oT (putD kvs ks v)) ⟨_, rfl, l.put rd'⟩ p5⟩
        | _ => exact pe.elim
    · have hn : j = items1.length := by omega
      subst hn
      rw [List.drop_length] at go3
      exact .inl ⟨v2, hlt, F3, u3, sv3, z3, hD3, hDf3, da3, go3⟩
  · have hn : i = items.length := by omega
    subst hn
    rw [List.drop_length] at go
    refine .inl ⟨w2, k _ F H sv.rO (x1.trans x2) ?_ go⟩
    cases sv with
    | oK kvs => obtain ⟨us, rfl, l⟩ := da; exact ⟨D, us, rfl, x1.none hD, hDl, hDf, nd, l⟩
    | oT kvs => obtain ⟨us, rfl, l⟩ := da; exact ⟨D, us, rfl, x1.none hD, hDl, hDf, nd, l⟩
    | _ => exact da.elim
section
variable {scope : Scope} {own : List (Str × Nat)} {vs2 : List Nat} {o0 : HO} {s0 : SV}
theorem e_dc2 (em : Em o0 s0) (hu : X.A.units + 1 < cLine) (hc : X.calm = true) (hN : X.N.Nodup) (hi : I_ X G W st tg iter fi) (ok : BlkOk X.N X.env.scope scope own)
    (hg : ∀ (s : Shared) (H : Hp) (C : Addr) (cl : List (Str × Addr)) (fp : List Addr), Go_ (X.blk s H scope (compEnvC scope cl C X.env) fp) G ts tg fg)
    (hi1 : ∀ (s : Shared) (H : Hp) (C : Addr) (cl : List (Str × Addr)) (fp : List Addr), I_ (X.blk s H scope (compEnvC scope cl C X.env) fp) G wTrue true tg1 iter1 fi1)
    (hg1 : ∀ (s : Shared) (H : Hp) (C : Addr) (cl : List (Str × Addr)) (fp : List Addr), G_ (X.blk s H scope (compEnvC scope cl C X.env) fp) G us tg1 fg1)
    (hk : ∀ (s : Shared) (H : Hp) (C : Addr) (cl : List (Str × Addr)) (fp : List Addr), E_ (X.blk s H scope (compEnvC scope cl C X.env) fp) G wTrue kx fk)
    (he : ∀ (s : Shared) (H : Hp) (C : Addr) (cl : List (Str × Addr)) (fp : List Addr), E_ (X.blk s H scope (compEnvC scope cl C X.env) fp) G wTrue vx fv)
    (hv : ∀ i ∈ vs2, i ∈ own.map (·.2) := by decide) (hts : ∀ t ∈ ts, t ∈ own.map (·.2) := by decide) (hus : ∀ t ∈ us, t ∈ vs2 := by decide) (hs : ∀ x, foldedSetIterable iter X.env x = pure x := by intro _; rfl) (hs1 : ∀ env x, foldedSetIterable iter1 env x = pure x := by intro _ _; rfl) :
    E_ X G W (.DictComp kx vx [⟨tg, iter, [], 0⟩, ⟨tg1, iter1, [], 0⟩] scope pos) (fDc2 s0 fi fg fi1 fg1 tYes fk fv (own.map (·.2)) vs2) :=
  PE.imp (pe_dG2 (vs1 := vs2) em.emp hu hc hN hi ok hv hg hi1 hg1 (fun _ _ _ _ _ => pts_nil) hk he hs hs1) fun σ H Q h => dc2_of em hts hus (fun σ H Q ⟨F, δ, P, PX, S, q, k, xk⟩ => k true F H S.ext.stay q) (fun _ _ _ h => h) (fun _ _ _ h => h) h
theorem e_dc2If (em : Em o0 s0) (hu : X.A.units + 1 < cLine) (hc : X.calm = true) (hN : X.N.Nodup) (hi : I_ X G W st tg iter fi) (ok : BlkOk X.N X.env.scope scope own)
    (hg : ∀ (s : Shared) (H : Hp) (C : Addr) (cl : List (Str × Addr)) (fp : List Addr), Go_ (X.blk s H scope (compEnvC scope cl C X.env) fp) G ts tg fg)
    (hi1 : ∀ (s : Shared) (H : Hp) (C : Addr) (cl : List (Str × Addr)) (fp : List Addr), I_ (X.blk s H scope (compEnvC scope cl C X.env) fp) G wTrue true tg1 iter1 fi1)
    (hg1 : ∀ (s : Shared) (H : Hp) (C : Addr) (cl : List (Str × Addr)) (fp : List Addr), G_ (X.blk s H scope (compEnvC scope cl C X.env) fp) G us tg1 fg1)
    (ht : ∀ (s : Shared) (H : Hp) (C : Addr) (cl : List (Str × Addr)) (fp : List Addr), T_ (X.blk s H scope (compEnvC scope cl C X.env) fp) G wTrue c ft)
    (hk : ∀ (s : Shared) (H : Hp) (C : Addr) (cl : List (Str × Addr)) (fp : List Addr), E_ (X.blk s H scope (compEnvC scope cl C X.env) fp) G wTrue kx fk)
    (he : ∀ (s : Shared) (H : Hp) (C : Addr) (cl : List (Str × Addr)) (fp : List Addr), E_ (X.blk s H scope (compEnvC scope cl C X.env) fp) G wTrue vx fv)
    (hv : ∀ i ∈ vs2, i ∈ own.map (·.2) := by decide) (hts : ∀ t ∈ ts, t ∈ own.map (·.2) := by decide) (hus : ∀ t ∈ us, t ∈ vs2 := by decide) (hs : ∀ x, foldedSetIterable iter X.env x = pure x := by intro _; rfl) (hs1 : ∀ env x, foldedSetIterable iter1 env x = pure x := by intro _ _; rfl) :
    E_ X G W (.DictComp kx vx [⟨tg, iter, [], 0⟩, ⟨tg1, iter1, [c], 0⟩] scope pos) (fDc2 s0 fi fg fi1 fg1 ft fk fv (own.map (·.2)) vs2) :=
  PE.imp (pe_dG2 (vs1 := vs2) em.emp hu hc hN hi ok hv hg hi1 hg1 (fun s H C cl fp => pts_one (ht s H C cl fp)) hk he hs hs1) fun σ H Q h => dc2_of em hts hus (fun _ _ _ h => h) (fun _ _ _ h => h) (fun _ _ _ h => h) h
theorem e_dcIf (em : Em o0 s0) (hu : X.A.units + 1 < cLine) (hc : X.calm = true) (hN : X.N.Nodup) (hi : I_ X G W st tg iter fi) (ok : BlkOk X.N X.env.scope scope own)
    (hg : ∀ (s : Shared) (H : Hp) (C : Addr) (cl : List (Str × Addr)) (fp : List Addr), G_ (X.blk s H scope (compEnvC scope cl C X.env) fp) G ts tg fg)
    (ht : ∀ (s : Shared) (H : Hp) (C : Addr) (cl : List (Str × Addr)) (fp : List Addr), T_ (X.blk s H scope (compEnvC scope cl C X.env) fp) G wTrue c ft)
    (hk : ∀ (s : Shared) (H : Hp) (C : Addr) (cl : List (Str × Addr)) (fp : List Addr), E_ (X.blk s H scope (compEnvC scope cl C X.env) fp) G wTrue kx fk) (hv : ∀ (s : Shared) (H : Hp) (C : Addr) (cl : List (Str × Addr)) (fp : List Addr), E_ (X.blk s H scope (compEnvC scope cl C X.env) fp) G wTrue vx fv)
    (hts : ∀ t ∈ ts, t ∈ own.map (·.2) := by decide) (hs : ∀ x, foldedSetIterable iter X.env x = pure x := by intro _; rfl) : E_ X G W (.DictComp kx vx [⟨tg, iter, [c], 0⟩] scope pos) (fDc s0 fi fg ft fk fv (own.map (·.2))) :=
  PE.imp (pe_dG em.emp hu hc hN hi ok hg (fun s H C cl fp => pts_one (ht s H C cl fp)) hk hv hs) fun σ H Q ⟨F, δ, P, PX, S, q, k, xk⟩ =>
    dc_of (wi := wI X.K fi) (wg := wG fg) (wt := wT X.K ft) (wk := wE X.K fk) (wv := wE X.K fv) em hts (fun _ _ _ h => h) (fun _ _ _ h => h) (fun _ _ _ h => h)
      ⟨F, δ, P, PX, S, Tr.sat_of (Tr.sat_bind.mp q) fun items qi => dcF_ok _ _ (Tr.sat_of (Tr.sat_bind.mp qi) fun s qs => qs), k, xk⟩
end
end
end FW
set_option Elab.async false
set_option linter.all false
set_option maxRecDepth 100000
set_option maxHeartbeats 4000000
namespace FW
open PySem PySem.Spec L2 DW
open PySem.W (alike dataLt rcLt_alike dataLt_str)
section
variable {K : PySem.W.Frag} {w : Option Dw} {G : Gd} {F F1 F2 F0 H H1 H2 : Hp} {σ σ2 : L2.St} {δ δ2 : DEnv}
variable {X : Cx} {W : WX} {st : Bool} {tg iter tg1 iter1 e a b c elt kx vx : Expr} {es rest : List Expr} {fe fa fb fc fo fk fv : FE} {ft fu : FT} {faa : FA} {fi fi1 : FI} {fg fg1 : FG} {fgs : FGs} {pos p np p2 apos cpos : Pos} {ts us : List Nat} {s : Stmt} {body : List Stmt} {x : Str}
/-! ### texts told, texts behind texts -/
theorem de_glS {z : Str} (hg : Gl X x) (h : ∃ t, X.mg x = some (.str z t)) (hd : (x == ("__debug__" : Str)) = false := by decide) : DE X G W (.Name x pos) (wC (.str z)) := by
  obtain ⟨t, h⟩ := h
  exact de_con (pe_glob (v := .str z) hg h ⟨t, rfl⟩ hd) fun _ => .str z
def gAddS : G2 := fun x y => match x, y with
  | .im (.str a), .im (.str b) => gd (szOk (a.length + b.length)) (.ok (.im (.str (a ++ b))))
  | _, _ => .no
theorem kg_addS : KG kCatS gAddS := by
  intro a b P PX h
  unfold gAddS at h
  split at h
  · obtain ⟨h1, h2⟩ := gd_sat h
    exact ⟨_, _, rfl, rfl, szOk_ok h1, h2⟩
  · exact h.elim
/-! ### a < b on data -/
def rLtD (K : PySem.W.Frag) : R2 := fun x y H Q => ∃ d e, Dp K H x d ∧ Dp K H y e ∧ alike d e = true ∧ d ≠ .none ∧ min d.depth e.depth < 64 ∧ Q (.bl (dataLt d e)) H
theorem op_ltD (hu : X.A.units + 64 < cLine) : OpR X (compareOp .Lt) (rLtD X.K) := by
  intro pins s σ H x y v u Q I rx ry ⟨d, e, h1, h2, ha, hn, hd, q⟩
  obtain ⟨as, r1⟩ := Dp.reads I d x v h1 rx
  obtain ⟨bs, r2⟩ := Dp.reads I e y u h2 ry
  exact rcLt_alike d e X.A s v u as bs r1 r2 ha hn (by omega) X.prog X.w _ _ ⟨.bl (dataLt d e), H, I, rfl, q⟩
def lay0 (d : D) : Bool := d.canLay0
def kLtD : KO := fun r1 r2 P => ∃ d e, r1.datA = some d ∧ r2.datA = some e ∧ d.canLay0 = true ∧ e.canLay0 = true ∧ alike d e = true ∧ d ≠ .none ∧ min d.depth e.depth < 64 ∧ P (.im (.bool (dataLt d e)))
theorem opd_ltD : OpD K (rLtD K) kLtD := by
  intro w H0 F H x y r1 r2 P Q x0 q1 q2 ⟨d, e, e1, e2, l1, l2, ha, hn, hd, p⟩ k
  exact ⟨d, e, q1.dp x0.le e1 l1, q2.dp x0.le e2 l2, ha, hn, hd, k _ F H (.im _) x0 (.bl _) p⟩
def isNn : D → Bool
  | .none => true
  | _ => false
def ltOk (d e : D) : Bool := d.canLay0 && e.canLay0 && alike d e && !isNn d && decide (min d.depth e.depth < 64)
def gLtD : G2 := fun x y => match x, y with
  | .im (.str a), .im (.str b) => gd (PyData.strOk a && PyData.strOk b) (.ok (.im (.bool (decide (a.cps.toList < b.cps.toList)))))
  | x, y => match x.datA, y.datA with
    | some d, some e => gd (ltOk d e) (.ok (.im (.bool (dataLt d e))))
    | _, _ => .no
theorem kg_ltD : KG kLtD gLtD := by
  intro a b P PX h
  unfold gLtD at h
  split at h
  · rename_i s1 s2
    obtain ⟨h0, h⟩ := gd_sat h
    rw [Bool.and_eq_true] at h0
    exact ⟨.str s1, .str s2, rfl, rfl, by simp [PyData.canLay0, h0.1], by simp [PyData.canLay0, h0.2], by simp [alike], (fun z => nomatch z), by simp [PyData.depth], by rw [dataLt_str]; exact h⟩
  · split at h
    · rename_i d e e1 e2
      obtain ⟨h1, h2⟩ := gd_sat h
      unfold ltOk at h1
      simp only [Bool.and_eq_true, decide_eq_true_eq] at h1
      obtain ⟨⟨⟨⟨a1, a2⟩, a3⟩, a4⟩, a5⟩ := h1
      exact ⟨d, e, e1, e2, a1, a2, a3, (fun z => by subst z; cases a4), a5, h2⟩
    · exact h.elim
theorem e_ltD (hu : X.A.units + 64 < cLine) (ha : E_ X G W a fa) (hb : E_ X G W b fb) : E_ X G W (.Compare a [.Lt] [b] pos) (fOp gLtD fa fb) := e_op (de_cmp (op_ltD hu) opd_ltD ha hb (nb _ (by decide) (by decide))) kg_ltD
theorem t_ltD (hu : X.A.units + 64 < cLine) (ha : E_ X G W a fa) (hb : E_ X G W b fb) : T_ X G W (.Compare a [.Lt] [b] pos) (tB (fOp gLtD fa fb)) := t_op (dt_cmp (op_ltD hu) opd_ltD ha hb (nb _ (by decide) (by decide))) kg_ltD
/-! ### a tuple times an int -/
def kMulT : KO := fun r1 r2 P => ∃ xs k, r1 = .im (.tuple xs) ∧ r2 = .im (.int k) ∧ xs ≠ [] ∧ 2 ≤ k ∧ k ≤ 1000 ∧ xs.length ≤ 1000 ∧ P (.im (.tuple (List.replicate k.toNat xs).flatten))
theorem RepL.rep {vs : List V} {ds : List D} (l : RepL K F vs ds) : ∀ n : Nat, RepL K F (List.replicate n vs).flatten (List.replicate n ds).flatten
  | 0 => .nil
  | n + 1 => by rw [List.replicate_succ, List.replicate_succ, List.flatten_cons, List.flatten_cons]; exact RepL.append l (RepL.rep l n)
theorem opd_mulT : OpD K (rRepT K) kMulT := by
  rintro w H0 F H x y r1 r2 P Q x0 q1 q2 ⟨xs, n, rfl, rfl, ne, h0, h1, h2, p⟩ k
  obtain ⟨a, vs, rfl, ha, l⟩ := q1.tuple x0.le (xs := xs) rfl
  cases q2
  refine ⟨a, n, vs, rfl, rfl, .inl (.inl (x0.le _ _ ha)), fun z => ne (by subst z; cases l; rfl), h0, h1, by rw [RepL.length l]; exact h2, fun pp hp => ?_⟩
  have x1 := x0.laid (u := .tup (List.replicate n.toNat vs).flatten) hp
  exact k _ _ _ (.im _) x1 (.tup upd_same (RepL.mono x1.fs (RepL.rep l _))) p
def gMulT : G2 := fun x y => match x, y with
  | .im (.tuple xs), .im (.int k) => gd (!xs.isEmpty && decide (2 ≤ k) && decide (k ≤ 1000) && decide (xs.length ≤ 1000)) (.ok (.im (.tuple (List.replicate k.toNat xs).flatten)))
  | _, _ => .no
theorem kg_mulT : KG kMulT gMulT := by
  intro a b P PX h
  unfold gMulT at h
  split at h
  · obtain ⟨h1, h2⟩ := gd_sat h
    simp only [Bool.and_eq_true, decide_eq_true_eq] at h1
    exact ⟨_, _, rfl, rfl, (fun z => by subst z; exact absurd h1.1.1.1 (by decide)), h1.1.1.2, h1.1.2, h1.2, h2⟩
  · exact h.elim
theorem e_mulT (ha : E_ X G W a fa) (hb : E_ X G W b fb) : E_ X G W (.BinOp a .Mult b pos) (fOp gMulT fa fb) := e_op (de_op op_repT opd_mulT ha hb) kg_mulT
/-! ### dicts gone through -/
def dBody : List (D × D) → List (D × D)
  | (.none, .none) :: r => r
  | r => r
theorem dBody_K {ks : List Key} {ds : List D} : dBody (kdK ks ds) = kdK ks ds := by
  unfold kdK
  cases ks with
  | nil => rfl
  | cons k r => cases ds with
    | nil => rfl
    | cons d t => cases k <;> rfl
theorem dBody_T {ks : List (List Key)} {ds : List D} : dBody (kdT ks ds) = (ks.map fun k => PyData.tuple (k.map keyD)).zip ds := rfl
theorem walkKK {d : Addr} {o : Obj} {ks : List Key} {vs : List V} {ds : List D} (hl : ks.length = vs.length) (l : RepL K F0 vs ds) : DWalk K w (fun F H => Sub F0 F ∧ H d = some (.frz o (.dK (ks.zip vs)))) (Itk d o (ks.zip vs)) ((kdK ks ds).map (·.1)) := by
  intro F H ⟨s0, h⟩ x0
  have e0 : (ks.zip vs).length = ((kdK ks ds).map (·.1)).length := by unfold kdK; simp [List.length_zip, RepL.length l]
  refine ⟨fun i hi => ⟨h, by rw [e0]; exact hi⟩, ⟨h, Nat.le_of_eq e0⟩, fun i x H' dd e y => ?_⟩
  obtain ⟨rfl, k, v, ekv, rfl⟩ := y
  obtain ⟨e1, e2⟩ := List.getElem?_zip_eq_some.mp ekv
  obtain ⟨d2, e3, _⟩ := RepL.get' l e2
  have : ((kdK ks ds).map (·.1))[i]? = some (keyD k) := by
    unfold kdK
    rw [List.getElem?_map]
    have : ((ks.map keyD).zip ds)[i]? = some (keyD k, d2) := List.getElem?_zip_eq_some.mpr ⟨by rw [List.getElem?_map, e1]; rfl, e3⟩
    rw [this]; rfl
  rw [this] at e
  cases e
  exact ⟨F, x0, keyD_rep k⟩
theorem walkKT {d : Addr} {o : Obj} {ks : List (List Key)} {vs : List V} {ds : List D} (hl : ks.length = vs.length) (l : RepL K F0 vs ds) : DWalk K w (fun F H => Sub F0 F ∧ H d = some (.frz o (.dT (ks.zip vs)))) (Itkt d o (ks.zip vs)) (((ks.map fun k => PyData.tuple (k.map keyD)).zip ds).map (·.1)) := by
  intro F H ⟨s0, h⟩ x0
  have e0 : (ks.zip vs).length = (((ks.map fun k => PyData.tuple (k.map keyD)).zip ds).map (·.1)).length := by simp [List.length_zip, RepL.length l]
  refine ⟨fun i hi => ⟨h, by rw [e0]; exact hi⟩, ⟨h, Nat.le_of_eq e0⟩, fun i x H' dd e y => ?_⟩
  obtain ⟨rfl, k, v, q, ekv, rfl, hq⟩ := y
  obtain ⟨e1, e2⟩ := List.getElem?_zip_eq_some.mp ekv
  obtain ⟨d2, e3, _⟩ := RepL.get' l e2
  have : (((ks.map fun k => PyData.tuple (k.map keyD)).zip ds).map (·.1))[i]? = some (.tuple (k.map keyD)) := by
    rw [List.getElem?_map]
    have : ((ks.map fun k => PyData.tuple (k.map keyD)).zip ds)[i]? = some (.tuple (k.map keyD), d2) := List.getElem?_zip_eq_some.mpr ⟨by rw [List.getElem?_map, e1]; rfl, e3⟩
    rw [this]; rfl
  rw [this] at e
  cases e
  obtain ⟨F2, x2, s2, e4⟩ := Ext.tupIn x0 hq
  exact ⟨F2, x2, .tup e4 (keysD_rep k)⟩
theorem walkKV {d : Addr} {o : Obj} {ks : List Key} {vs : List V} {ds : List D} (hl : ks.length = vs.length) (l : RepL K F0 vs ds) : DWalk K w (fun F H => Sub F0 F ∧ H d = some (.frz o (.dK (ks.zip vs)))) (Itd d o (ks.zip vs)) ((kdK ks ds).map (·.2)) := by
  intro F H ⟨s0, h⟩ x0
  have e0 : (ks.zip vs).length = ((kdK ks ds).map (·.2)).length := by unfold kdK; simp [List.length_zip, RepL.length l]
  refine ⟨fun i hi => ⟨h, by rw [e0]; exact hi⟩, ⟨h, Nat.le_of_eq e0⟩, fun i x H' dd e y => ?_⟩
  obtain ⟨rfl, k, ekv⟩ := y
  obtain ⟨e1, e2⟩ := List.getElem?_zip_eq_some.mp ekv
  obtain ⟨d2, e3, r⟩ := RepL.get' l e2
  have : ((kdK ks ds).map (·.2))[i]? = some d2 := by
    unfold kdK
    rw [List.getElem?_map]
    have : ((ks.map keyD).zip ds)[i]? = some (keyD k, d2) := List.getElem?_zip_eq_some.mpr ⟨by rw [List.getElem?_map, e1]; rfl, e3⟩
    rw [this]; rfl
  rw [this] at e
  cases e
  exact ⟨F, x0, RepD.mono s0 r⟩
def pairsD (m : List (D × D)) : List D := m.map fun kv => .tuple [kv.1, kv.2]
theorem walkKI {d : Addr} {o : Obj} {ks : List Key} {vs : List V} {ds : List D} (hl : ks.length = vs.length) (l : RepL K F0 vs ds) : DWalk K w (fun F H => Sub F0 F ∧ H d = some (.frz o (.dK (ks.zip vs)))) (Iti d o (ks.zip vs)) (pairsD (kdK ks ds)) := by
  intro F H ⟨s0, h⟩ x0
  have e0 : (ks.zip vs).length = (pairsD (kdK ks ds)).length := by unfold pairsD kdK; simp [List.length_zip, RepL.length l]
  refine ⟨fun i hi => ⟨h, by rw [e0]; exact hi⟩, ⟨h, Nat.le_of_eq e0⟩, fun i x H' dd e y => ?_⟩
  obtain ⟨T, k, v, ekv, rfl, hT, rfl⟩ := y
  obtain ⟨e1, e2⟩ := List.getElem?_zip_eq_some.mp ekv
  obtain ⟨d2, e3, r⟩ := RepL.get' l e2
  have : (pairsD (kdK ks ds))[i]? = some (.tuple [keyD k, d2]) := by
    unfold pairsD kdK
    rw [List.getElem?_map]
    have : ((ks.map keyD).zip ds)[i]? = some (keyD k, d2) := List.getElem?_zip_eq_some.mpr ⟨by rw [List.getElem?_map, e1]; rfl, e3⟩
    rw [this]; rfl
  rw [this] at e
  cases e
  have x1 := x0.laid (u := .tup [kV k, v]) hT
  exact ⟨_, x1, .tup upd_same (.cons (keyD_rep k) (.cons (RepD.mono (s0.trans x1.fs) r) .nil))⟩
theorem stFz {d : Addr} {u : HO} : StC w true (fun F H => Sub F0 F ∧ H d = some u ∧ F d = some u) := fun F H F' H' ⟨s0, _, hf⟩ s1 s2 => ⟨s0.trans s1, s2 _ _ (s1 _ _ hf), s1 _ _ hf⟩
def iKeys (f : FE) : FI := fun δ => (f δ).bind fun r => match r with
  | .im (.dict m) => .ok ((dBody m).map (·.1))
  | _ => .no
theorem i_keys (he : E_ X G W e fe) : I_ X G W true tg e (iKeys fe) := PI.imp (pi_keys he) fun σ H R ⟨F, δ, P, PX, S, q, k, xk⟩ => by
  refine ⟨F, δ, _, PX, S, Tr.sat_bind.mp q, fun v F1 H1 r x1 q1 p1 => ?_, xk⟩
  split at p1
  · rename_i m
    cases q1 with
    | dicK h hl l =>
      rename_i a o ks vs ds
      have h' := x1.le _ _ h
      refine ⟨a, o, rfl, .inl ⟨_, h', k _ (fun F H => Sub F1 F ∧ H a = some (.frz o (.dK (ks.zip vs))) ∧ F a = some (.frz o (.dK (ks.zip vs)))) F1 H1 _ x1 ⟨Sub.refl, h', h⟩ (fun F H c x0 => walkKK hl l F H ⟨c.1, c.2.1⟩ x0) stFz (by rw [← dBody_K (ks := ks) (ds := ds)]; exact p1)⟩⟩
    | dicT h hl l =>
      rename_i a o ks vs ds
      have h' := x1.le _ _ h
      exact ⟨a, o, rfl, .inr ⟨_, h', k _ (fun F H => Sub F1 F ∧ H a = some (.frz o (.dT (ks.zip vs))) ∧ F a = some (.frz o (.dT (ks.zip vs)))) F1 H1 _ x1 ⟨Sub.refl, h', h⟩ (fun F H c x0 => walkKT hl l F H ⟨c.1, c.2.1⟩ x0) stFz p1⟩⟩
  · exact p1.elim
def isDK : List (D × D) → Bool
  | (.none, .none) :: r => false
  | _ => true
theorem isDK_T {ks : List (List Key)} {ds : List D} : isDK (kdT ks ds) = false := rfl
def iVals (f : FE) : FI := fun δ => (f δ).bind fun r => match r with
  | .im (.dict m) => gd (isDK m) (.ok (m.map (·.2)))
  | _ => .no
def iItems (f : FE) : FI := fun δ => (f δ).bind fun r => match r with
  | .im (.dict m) => gd (isDK m) (.ok (pairsD m))
  | _ => .no
theorem i_values (he : E_ X G W e fe) (hbase : attributeBase e "values" X.env (eval e X.env) = eval e X.env := by rfl) (hline : (apos.endLine == cpos.line) = true := by rfl) : I_ X G W true tg (.Call (.Attribute e "values" apos) [] [] cpos) (iVals fe) := PI.imp (pi_values he hbase hline) fun σ H R ⟨F, δ, P, PX, S, q, k, xk⟩ => by
  refine ⟨F, δ, _, PX, S, Tr.sat_bind.mp q, fun v F1 H1 r x1 q1 p1 => ?_, xk⟩
  split at p1
  · rename_i m
    obtain ⟨g1, p1⟩ := gd_sat p1
    cases q1 with
    | dicK h hl l =>
      rename_i a o ks vs ds0 ds
      have h' := x1.le _ _ h
      exact ⟨a, o, _, rfl, h', k _ (fun F H => Sub F1 F ∧ H a = some (.frz o (.dK (ks.zip vs))) ∧ F a = some (.frz o (.dK (ks.zip vs)))) F1 H1 _ x1 ⟨Sub.refl, h', h⟩ (fun F H c x0 => walkKV hl l F H ⟨c.1, c.2.1⟩ x0) stFz p1⟩
    | dicT h hl l => cases g1
  · exact p1.elim
theorem i_items {elts : List Expr} {kk : Nat} {tpos : Pos} (he : E_ X G W e fe) (hbase : attributeBase e "items" X.env (eval e X.env) = eval e X.env := by rfl) (hline : (apos.endLine == cpos.line) = true := by rfl) : I_ X G W true (.Tuple elts kk tpos) (.Call (.Attribute e "items" apos) [] [] cpos) (iItems fe) := PI.imp (pi_items he hbase hline) fun σ H R ⟨F, δ, P, PX, S, q, k, xk⟩ => by
  refine ⟨F, δ, _, PX, S, Tr.sat_bind.mp q, fun v F1 H1 r x1 q1 p1 => ?_, xk⟩
  split at p1
  · rename_i m
    obtain ⟨g1, p1⟩ := gd_sat p1
    cases q1 with
    | dicK h hl l =>
      rename_i a o ks vs ds0 ds
      have h' := x1.le _ _ h
      exact ⟨a, o, _, rfl, h', k _ (fun F H => Sub F1 F ∧ H a = some (.frz o (.dK (ks.zip vs))) ∧ F a = some (.frz o (.dK (ks.zip vs)))) F1 H1 _ x1 ⟨Sub.refl, h', h⟩ (fun F H c x0 => walkKI hl l F H ⟨c.1, c.2.1⟩ x0) stFz p1⟩
    | dicT h hl l => cases g1
  · exact p1.elim
section
variable {scope : Scope} {own : List (Str × Nat)} {vs2 : List Nat} {y : Str} {py spos : Pos}
theorem s_setLc2If {i : Nat} (hc : X.calm = true) (hN : X.N.Nodup) (hy : X.N[i]? = some y) (hyl : X.env.scope.names.lookup y = some .local) (hsw : swapsWith (.ListComp elt [⟨tg, iter, [], 0⟩, ⟨tg1, iter1, [c], 0⟩] scope pos) (some (.Name y py)) spos.line X.env = pure true)
    (hi : I_ X G W st tg iter fi) (ok : BlkOk X.N X.env.scope scope own)
    (hg : ∀ (s : Shared) (H : Hp) (C : Addr) (cl : List (Str × Addr)) (fp : List Addr), Go_ (X.blk s H scope (compEnvC scope cl C X.env) fp) G ts tg fg)
    (hi1 : ∀ (s : Shared) (H : Hp) (C : Addr) (cl : List (Str × Addr)) (fp : List Addr), I_ (X.blk s H scope (compEnvC scope cl C X.env) fp) G wTrue true tg1 iter1 fi1)
    (hg1 : ∀ (s : Shared) (H : Hp) (C : Addr) (cl : List (Str × Addr)) (fp : List Addr), G_ (X.blk s H scope (compEnvC scope cl C X.env) fp) G us tg1 fg1)
    (ht : ∀ (s : Shared) (H : Hp) (C : Addr) (cl : List (Str × Addr)) (fp : List Addr), T_ (X.blk s H scope (compEnvC scope cl C X.env) fp) G wTrue c ft)
    (he : ∀ (s : Shared) (H : Hp) (C : Addr) (cl : List (Str × Addr)) (fp : List Addr), E_ (X.blk s H scope (compEnvC scope cl C X.env) fp) G wTrue elt fe)
    (hv : ∀ i ∈ vs2, i ∈ own.map (·.2) := by decide) (hts : ∀ t ∈ ts, t ∈ own.map (·.2) := by decide) (hus : ∀ t ∈ us, t ∈ vs2 := by decide) (hs : ∀ x, foldedSetIterable iter X.env x = pure x := by intro _; rfl) (hs1 : ∀ env x, foldedSetIterable iter1 env x = pure x := by intro _ _; rfl) :
    S_ X G W (.Assign [.Name y py] (.ListComp elt [⟨tg, iter, [], 0⟩, ⟨tg1, iter1, [c], 0⟩] scope pos) spos) (sSetF i (fLc2 fi fg fi1 fg1 ft fe (own.map (·.2)) vs2)) :=
  DS.imp (ws := sSet i (wE X.K (fLc2 fi fg fi1 fg1 ft fe (own.map (·.2)) vs2))) (PS.imp (ps_setLc2 (vs1 := vs2) hc hN hy hyl hsw hi ok hv hg (fun _ _ _ _ _ => pts_nil) hi1 hg1 (fun s H C cl fp => pts_one (ht s H C cl fp)) he hs hs1) fun D σ H h => by
    have q : tAsg (dT X.K G W (wE X.K (fLc2 fi fg fi1 fg1 ft fe (own.map (·.2)) vs2))) (gName i) D σ H := set_of h
    unfold tAsg at q ⊢
    exact lc2_of (K := X.K) (G := G) (W := W) (st := st) (fi := fi) (fg := fg) (fi1 := fi1) (fg1 := fg1) (ft := ft) (fe := fe) (vs := own.map (·.2)) (vs2 := vs2) hts hus (fun _ _ _ h => h) (fun _ _ _ h => h) q) fun E δ q => set_imp q
end
end
end FW
set_option Elab.async false
set_option linter.all false
set_option maxRecDepth 100000
set_option maxHeartbeats 4000000
/-! the law's own body -/
namespace FW
open PySem PySem.Spec L2 DW
/-- what the law gives, its drawer laid into slot 1 -/
def lawF (n : Nat) (b : FS) : Tr R := (b (none :: some .drw :: List.replicate (n - 2) none)).bind fun o => match o with
  | .nx _ => .ok (.im .none)
  | .rt r => gd r.given (.ok r)
  | _ => .no
theorem law_sem {K : PySem.W.Frag} {n : Nat} {b : FS} (h : (lawF (n + 2) b).sat (fun r => r = .im (.bool true)) fun _ => False) {P : R → Prop} {PX : DX → Prop} (p : P (.im (.bool true))) : wS K b (fnEnds P PX) (none :: some .drw :: List.replicate n none) :=
  Tr.sat_mono (Tr.sat_bind.mp h) (fun o qo => by
    cases o with
    | nx δ => cases (show R.im PyData.none = R.im (.bool true) from qo)
    | rt r =>
      obtain ⟨h1, h2⟩ := gd_sat qo
      have h2 : r = R.im (.bool true) := h2
      subst h2
      exact ⟨h1, p⟩
    | bk δ => exact qo.elim
    | ct δ => exact qo.elim) fun _ z => z.elim
theorem take_dSp {K : PySem.W.Frag} {vs : List V} {H : Hp} {Q : VK} {E : XK} (h : dSp K 2 (SC K F_take) vs H Q E) : dSp K 2 S_take vs H Q E := by
  obtain ⟨w, F, rs, P, PX, x, q, g, hl, hs, k⟩ := h
  refine ⟨w, F, rs, P, PX, x, q, g, hl, ?_, k⟩
  have hs : (F_take rs).sat P fun _ => False := hs
  unfold F_take at hs
  split at hs
  · exact ⟨_, rfl, hs.1, hs.2.1, hs.2.2⟩
  · exact hs.elim
def clsBody : Stmt → List Stmt
  | .ClassDef _ _ _ body .. => body
  | _ => []
def ieOf (st : Stmt) (x q0 : Str) : IeD := let d := (clsBody st).getD 0 st; ⟨x, q0, defArgs d, defBody d, defScope d⟩
end FW
set_option Elab.async false
set_option linter.all false
set_option maxRecDepth 100000
set_option maxHeartbeats 4000000
/-! plain lemmas for what the functions compute -/
namespace FW
open PySem PySem.Spec L2 DW
/-! ### steps -/
theorem bind_ok {α β : Type} {a : α} {f : α → Tr β} : (Tr.ok a).bind f = f a := rfl
theorem gd_t {α : Type} {t : Tr α} : gd true t = t := rfl
theorem calm_ok {α : Type} {a : α} : calm (Tr.ok a) = .ok a := rfl
theorem calm_of {α : Type} {t : Tr α} {a : α} (h : t = .ok a) : calm t = .ok a := by rw [h]; rfl
/-- values -/
theorem ix_tup {xs : List D} {i : Nat} {d : D} (h : xs[i]? = some d) : gIx (.im (.tuple xs)) (.im (.int (i : Nat))) = .ok (.im d) := by
  have hi := (List.getElem?_eq_some_iff.mp h).1
  show (ofO (atI xs (i : Int))).bind _ = _
  have : atI xs (i : Int) = some d := by
    unfold atI ixN
    rw [if_pos (by omega), if_pos (by omega)]
    simpa using h
  rw [this]; rfl
theorem ix_bl {xs : List D} {i : Nat} {d : D} (h : xs[i]? = some d) : gIx (.bl xs) (.im (.int (i : Nat))) = .ok (.im d) := by
  have hi := (List.getElem?_eq_some_iff.mp h).1
  show (ofO (atI xs (i : Int))).bind _ = _
  have : atI xs (i : Int) = some d := by
    unfold atI ixN
    rw [if_pos (by omega), if_pos (by omega)]
    simpa using h
  rw [this]; rfl
/-! ### words -/
def tx (l : List Nat) : Str := ⟨(l.map (97 + ·)).toArray⟩
theorem tx_app {a b : List Nat} : tx a ++ tx b = tx (a ++ b) := by
  show (⟨_ ++ _⟩ : Str) = _
  unfold tx
  simp
theorem tx_len {a : List Nat} : (tx a).length = a.length := by
  show (tx a).cps.size = _
  unfold tx; simp
theorem tx_cps {a : List Nat} : (tx a).cps.toList = a.map (97 + ·) := by unfold tx; simp
theorem tx_inj {a b : List Nat} (h : tx a = tx b) : a = b := by
  have : (tx a).cps.toList = (tx b).cps.toList := by rw [h]
  rw [tx_cps, tx_cps] at this
  exact List.map_inj_right (fun x y e => by omega) |>.mp this
theorem signs_tx {a : List Nat} : signs (tx a) = a.map fun i => .str (tx [i]) := by
  unfold signs
  rw [tx_cps, List.map_map]
  rfl
theorem sign1_tx {i : Nat} : sign1 (tx [i]) = some (97 + i) := rfl
theorem addS_tx {a b : List Nat} (h : a.length + b.length ≤ 1000000) : gAddS (.im (.str (tx a))) (.im (.str (tx b))) = .ok (.im (.str (tx (a ++ b)))) := by
  unfold gAddS
  show gd (szOk _) _ = _
  rw [tx_len, tx_len, tx_app]
  unfold szOk
  rw [decide_eq_true (by omega)]; rfl
theorem add_tx {a b : List Nat} (h : a.length + b.length ≤ 1000000) : gAdd (.im (.str (tx a))) (.im (.str (tx b))) = .ok (.im (.str (tx (a ++ b)))) := by
  unfold gAdd
  show gd (szOk _) _ = _
  rw [tx_len, tx_len, tx_app]
  unfold szOk
  rw [decide_eq_true (by omega)]; rfl
/-! ### statements -/
section
variable {δ δ' δ1 δ2 : DEnv} {s t a b : FS} {f fa fb fc fk fv : FE} {faa : FA} {ft fu : FT} {g : FG} {r r1 r2 r3 x y z : R} {v : SV} {d : D} {ds xs ys : List D} {rs : List R} {i n : Nat} {o : Tr Fl} {N : List Str} {F : FD}
theorem sq_nx (h : s δ = .ok (.nx δ')) : sSq s t δ = t δ' := by unfold sSq; rw [h]; rfl
theorem sq_rt (h : s δ = .ok (.rt r)) : sSq s t δ = .ok (.rt r) := by unfold sSq; rw [h]; rfl
theorem sq_ex {x : Xn} (h : s δ = .ex x) : sSq s t δ = .ex x := by unfold sSq; rw [h]; rfl
theorem if_t (h : ft δ = .ok true) : sIfF ft a b δ = a δ := by unfold sIfF; rw [h]; rfl
theorem if_f (h : ft δ = .ok false) : sIfF ft a b δ = b δ := by unfold sIfF; rw [h]; rfl
theorem set_ok (h : f δ = .ok r) (e : r.sv = some v) : sSetF i f δ = .ok (.nx (δ.set i (some v))) := by unfold sSetF; rw [h, bind_ok]; (try dsimp only); rw [e]
theorem asg_ok (h : f δ = .ok r) (e : r.dat = some d) (hg : g d δ = .ok δ') : sAsgF f g δ = .ok (.nx δ') := by unfold sAsgF; rw [h, bind_ok]; (try dsimp only); rw [e]; (try dsimp only); rw [hg]; rfl
theorem aug_ok {gg : G2} {s0 : SV} (h0 : slotD δ i = some s0) (h : f δ = .ok r) (hg : gg s0.read r = .ok r1) (e : r1.sv = some v) : sAugF i gg f δ = .ok (.nx (δ.set i (some v))) := by unfold sAugF; rw [h0]; (try dsimp only); rw [h, bind_ok, hg, bind_ok]; (try dsimp only); rw [e]
theorem drop_ok (h : f δ = .ok r) : sDropF f δ = .ok (.nx δ) := by unfold sDropF; rw [h]; rfl
theorem ret_ok (h : f δ = .ok r) : sRetF f δ = .ok (.rt r) := by unfold sRetF; rw [h]; rfl
theorem app_ok (h0 : slotD δ i = some (.ol xs)) (h : f δ = .ok r) (e : r.dat = some d) (hl : xs.length < 16777216) : sAppF i f δ = .ok (.nx (δ.set i (some (.ol (xs ++ [d]))))) := by unfold sAppF; rw [h0]; (try dsimp only); rw [h, bind_ok]; (try dsimp only); rw [e]; (try dsimp only); rw [decide_eq_true hl]; rfl
theorem ext_ok (h0 : slotD δ i = some (.ol xs)) (h : f δ = .ok r) (e : r.own = some ys) (hl : xs.length + ys.length ≤ 16777216) : sExtF i f δ = .ok (.nx (δ.set i (some (.ol (xs ++ ys))))) := by unfold sExtF; rw [h0]; (try dsimp only); rw [h, bind_ok]; (try dsimp only); rw [e]; (try dsimp only); unfold szOk; rw [decide_eq_true hl]; rfl
theorem put_ok {s0 s1 : SV} {kd : D} (h0 : slotD δ i = some s0) (hv : fv δ = .ok r) (e : r.dat = some d) (hk : fk δ = .ok (.im kd)) (hp : putF s0 kd d = .ok s1) : sPutF i fk fv δ = .ok (.nx (δ.set i (some s1))) := by
  unfold sPutF; rw [h0]; (try dsimp only); rw [hv, bind_ok]; (try dsimp only); rw [e]; (try dsimp only); rw [hk, bind_ok]; (try dsimp only); rw [hp]; rfl
theorem for_ok {fi : FI} (h : fi δ = .ok xs) (hf : forF g s xs δ = o) : sForF fi g s δ = o := by unfold sForF; rw [h]; exact hf
theorem fn_ok (h : s (startD N rs) = .ok (.rt r)) (e : r.given = true) : fnF N s rs = .ok r := by unfold fnF; rw [h, bind_ok]; (try dsimp only); rw [e]; rfl
theorem fn_nx (h : s (startD N rs) = .ok (.nx δ)) : fnF N s rs = .ok (.im .none) := by unfold fnF; rw [h]; rfl
theorem fn_ex {x : Xn} (h : s (startD N rs) = .ex x) : fnF N s rs = .ex x := by unfold fnF; rw [h]; rfl
/-! ### expressions -/
theorem op_ok {gg : G2} (ha : fa δ = .ok x) (hb : fb δ = .ok y) (hg : gg x y = .ok z) : fOp gg fa fb δ = .ok z := by unfold fOp; rw [ha, bind_ok, hb, bind_ok, hg]
theorem tB_ok {c : Bool} (h : f δ = .ok (.im (.bool c))) : tB f δ = .ok c := by unfold tB; rw [h]; rfl
theorem tNot_ok {c : Bool} (h : ft δ = .ok c) : tNotF ft δ = .ok (!c) := by unfold tNotF; rw [h]; rfl
theorem tAnd_t {c : Bool} (h : ft δ = .ok true) (h2 : fu δ = .ok c) : tAndF ft fu δ = .ok c := by unfold tAndF; rw [h]; exact h2
theorem tAnd_f (h : ft δ = .ok false) : tAndF ft fu δ = .ok false := by unfold tAndF; rw [h]; rfl
theorem tOr_f {c : Bool} (h : ft δ = .ok false) (h2 : fu δ = .ok c) : tOrF ft fu δ = .ok c := by unfold tOrF; rw [h]; exact h2
theorem tOr_t (h : ft δ = .ok true) : tOrF ft fu δ = .ok true := by unfold tOrF; rw [h]; rfl
theorem fIf_t (h : ft δ = .ok true) (h2 : fa δ = .ok x) : fIf ft fa fb δ = .ok x := by unfold fIf; rw [h]; exact h2
theorem fIf_f (h : ft δ = .ok false) (h2 : fb δ = .ok x) : fIf ft fa fb δ = .ok x := by unfold fIf; rw [h]; exact h2
theorem cons_ok (h : f δ = .ok r) (hs : faa δ = .ok rs) : aCons f faa δ = .ok (r :: rs) := by unfold aCons; rw [h, bind_ok, hs]; rfl
theorem fcons_ok (h : f δ = .ok r) (e : r.frz = some r1) (hs : faa δ = .ok rs) : aFCons f faa δ = .ok (r1 :: rs) := by unfold aFCons; rw [h, bind_ok]; (try dsimp only); rw [e]; (try dsimp only); rw [hs]; rfl
theorem tup_ok (h : faa δ = .ok rs) (e : dats rs = some ds) (hl : ds.length ≤ 16777216) : fTup faa δ = .ok (.im (.tuple ds)) := by unfold fTup; rw [h, bind_ok]; (try dsimp only); rw [e]; (try dsimp only); unfold szOk; rw [decide_eq_true hl]; rfl
theorem lst_ok (h : faa δ = .ok rs) (e : dats rs = some ds) (hl : ds.length ≤ 16777216) : fLst faa δ = .ok (.ol ds) := by unfold fLst; rw [h, bind_ok]; (try dsimp only); rw [e]; (try dsimp only); unfold szOk; rw [decide_eq_true hl]; rfl
theorem call_ok {gg : G1} (h : faa δ = .ok rs) (hg : gg rs = .ok r) : fCall gg faa δ = .ok r := by unfold fCall; rw [h]; exact hg
theorem mtk_ok {okB : R → Bool} {gg : GM} (h : f δ = .ok r) (ho : okB r = true) (ha : faa δ = .ok rs) (hg : gg r rs = .ok z) : fMtK okB gg f faa δ = .ok z := by unfold fMtK; rw [h, bind_ok]; rw [ho]; show (faa δ).bind _ = _; rw [ha]; exact hg
theorem callC_ok (h : faa δ = .ok rs) (hp : (rs.all plainR && decide (rs.length = n)) = true) (hF : F rs = .ok r) : fCallC n F faa δ = .ok r := by unfold fCallC; rw [h, bind_ok, hp, hF]; rfl
theorem callF_ok (h : faa δ = .ok rs) (hp : (rs.all plainR && decide (rs.length = n)) = true) (hF : F rs = .ok r) : fCallF n F faa δ = .ok r := by unfold fCallF; rw [h, bind_ok, hp, hF]; rfl
theorem all_ok {bs : List Bool} (h : xs = bs.map .bool) : gAll [.ol xs] = .ok (.im (.bool (bs.all id))) := by
  subst h
  have e : ∀ l : List Bool, boolsOf (l.map .bool) = some l := fun l => by
    induction l with
    | nil => rfl
    | cons b r ih => rw [List.map_cons, boolsOf, ih]; rfl
  unfold gAll
  show (ofO (boolsOf _)).bind _ = _
  rw [e]; rfl
theorem any_ok {bs : List Bool} (h : xs = bs.map .bool) : gAny [.ol xs] = .ok (.im (.bool (bs.any id))) := by
  subst h
  have e : ∀ l : List Bool, boolsOf (l.map .bool) = some l := fun l => by
    induction l with
    | nil => rfl
    | cons b r ih => rw [List.map_cons, boolsOf, ih]; rfl
  unfold gAny
  show (ofO (boolsOf _)).bind _ = _
  rw [e]; rfl
end
/-! ### walks -/
theorem forF_ok1 {g : FG} {b : FS} {β : Type} (Inv : β → DEnv → Prop) (step : β → D → β) : ∀ (items : List D) (a : β) (δ : DEnv), Inv a δ → (∀ a δ d, d ∈ items → Inv a δ → ∃ δ1 δ2, g d δ = .ok δ1 ∧ b δ1 = .ok (.nx δ2) ∧ Inv (step a d) δ2) →
    ∃ δ', forF g b items δ = .ok (.nx δ') ∧ Inv (items.foldl step a) δ'
  | [], a, δ, h, _ => ⟨δ, rfl, h⟩
  | d :: ds, a, δ, h, hs => by
    obtain ⟨δ1, δ2, e1, e2, h2⟩ := hs a δ d (List.mem_cons_self ..) h
    obtain ⟨δ', e3, h3⟩ := forF_ok1 Inv step ds (step a d) δ2 h2 fun a δ d hd => hs a δ d (List.mem_cons_of_mem _ hd)
    refine ⟨δ', ?_, h3⟩
    rw [forF, e1]
    show (b δ1).bind _ = _
    rw [e2]
    exact e3
theorem lc_ok {α : Type} {e h : α → D} {g : FG} {f : FE} {δ0 : DEnv} : ∀ (ts : List α) (acc : List D), acc.length + ts.length ≤ 16777216 → (∀ d ∈ ts, ∃ δ1 r, g (e d) δ0 = .ok δ1 ∧ f δ1 = .ok r ∧ r.dat = some (h d)) → lcF g tYes f δ0 (ts.map e) acc = .ok (acc ++ ts.map h)
  | [], acc, _, _ => by rw [List.map_nil, lcF, List.map_nil, List.append_nil]
  | d :: ds, acc, hl, hs => by
    obtain ⟨δ1, r, e1, e2, e3⟩ := hs d (List.mem_cons_self ..)
    have hl' : acc.length + (ds.length + 1) ≤ 16777216 := by simpa using hl
    rw [List.map_cons, lcF, e1]
    show (calm (f δ1)).bind _ = _
    rw [e2]
    show (match r.dat with | some d' => _ | none => _) = _
    rw [e3]
    show gd _ _ = _
    rw [decide_eq_true (by omega)]
    show lcF g tYes f δ0 (ds.map e) (acc ++ [h d]) = _
    rw [lc_ok ds (acc ++ [h d]) (by simp; omega) fun d hd => hs d (List.mem_cons_of_mem _ hd), List.map_cons, List.append_assoc]
    rfl
theorem flc_ok {α : Type} {e h : α → D} {g : FG} {f : FE} {δ : DEnv} {fi : FI} {ts : List α} {vs : List Nat} (hi : fi δ = .ok (ts.map e)) (hl : ts.length ≤ 16777216) (hs : ∀ d ∈ ts, ∃ δ1 r, g (e d) (wipeD δ vs) = .ok δ1 ∧ f δ1 = .ok r ∧ r.dat = some (h d)) : fLc fi g tYes f vs δ = .ok (.ol (ts.map h)) := by
  unfold fLc
  rw [hi, bind_ok, lc_ok ts [] (by simpa using hl) hs]
  rfl
/-- with a test -/
theorem lcIf_ok {α : Type} {e h : α → D} {g : FG} {t : FT} {f : FE} {c : α → Bool} {δ0 : DEnv} : ∀ (ts : List α) (acc : List D), acc.length + ts.length ≤ 16777216 → (∀ d ∈ ts, ∃ δ1, g (e d) δ0 = .ok δ1 ∧ t δ1 = .ok (c d) ∧ (c d = true → ∃ r, f δ1 = .ok r ∧ r.dat = some (h d))) → lcF g t f δ0 (ts.map e) acc = .ok (acc ++ (ts.filter c).map h)
  | [], acc, _, _ => by rw [List.map_nil, lcF, List.filter_nil, List.map_nil, List.append_nil]
  | d :: ds, acc, hl, hs => by
    obtain ⟨δ1, e1, e2, e3⟩ := hs d (List.mem_cons_self ..)
    have hl' : acc.length + (ds.length + 1) ≤ 16777216 := by simpa using hl
    rw [List.map_cons, lcF, e1]
    show (calm (t δ1)).bind _ = _
    rw [e2]
    cases hc : c d with
    | false =>
      show lcF g t f δ0 (ds.map e) acc = _
      rw [lcIf_ok ds acc (by omega) fun d hd => hs d (List.mem_cons_of_mem _ hd), List.filter_cons_of_neg (by rw [hc]; exact Bool.false_ne_true)]
    | true =>
      obtain ⟨r, e4, e5⟩ := e3 hc
      show (calm (f δ1)).bind _ = _
      rw [e4]
      show (match r.dat with | some d' => _ | none => _) = _
      rw [e5]
      show gd _ _ = _
      rw [decide_eq_true (by omega)]
      show lcF g t f δ0 (ds.map e) (acc ++ [h d]) = _
      rw [lcIf_ok ds (acc ++ [h d]) (by simp; omega) fun d hd => hs d (List.mem_cons_of_mem _ hd), List.filter_cons_of_pos hc, List.map_cons, List.append_assoc]
      rfl
theorem flcIf_ok {α : Type} {e h : α → D} {g : FG} {t : FT} {f : FE} {c : α → Bool} {δ : DEnv} {fi : FI} {ts : List α} {vs : List Nat} (hi : fi δ = .ok (ts.map e)) (hl : ts.length ≤ 16777216) (hs : ∀ d ∈ ts, ∃ δ1, g (e d) (wipeD δ vs) = .ok δ1 ∧ t δ1 = .ok (c d) ∧ (c d = true → ∃ r, f δ1 = .ok r ∧ r.dat = some (h d))) : fLc fi g t f vs δ = .ok (.ol ((ts.filter c).map h)) := by
  unfold fLc
  rw [hi, bind_ok, lcIf_ok ts [] (by simpa using hl) hs]
  rfl
end FW
namespace FW
open PySem PySem.Spec L2 DW
theorem forF_ix {g : FG} {b : FS} (Inv : Nat → DEnv → Prop) (items : List D) : ∀ (ds : List D) (k : Nat) (δ : DEnv), items.drop k = ds → Inv k δ → (∀ i d δ, items[i]? = some d → Inv i δ → ∃ δ1 δ2, g d δ = .ok δ1 ∧ b δ1 = .ok (.nx δ2) ∧ Inv (i + 1) δ2) →
    ∃ δ', forF g b ds δ = .ok (.nx δ') ∧ Inv (k + ds.length) δ'
  | [], k, δ, _, h, _ => ⟨δ, rfl, h⟩
  | d :: ds, k, δ, e, h, hs => by
    have e0 : items[k]? = some d := by
      have := List.getElem?_drop (xs := items) (i := k) (j := 0)
      rw [e] at this
      simpa using this.symm
    obtain ⟨δ1, δ2, e1, e2, h2⟩ := hs k d δ e0 h
    have e3 : items.drop (k + 1) = ds := by
      rw [← List.drop_drop, e]; rfl
    obtain ⟨δ', e4, h3⟩ := forF_ix Inv items ds (k + 1) δ2 e3 h2 hs
    refine ⟨δ', ?_, by rw [List.length_cons]; rw [show k + (ds.length + 1) = k + 1 + ds.length by omega]; exact h3⟩
    rw [forF, e1]
    show (b δ1).bind _ = _
    rw [e2]
    exact e4
theorem forF_ix0 {g : FG} {b : FS} {δ : DEnv} (Inv : Nat → DEnv → Prop) (items : List D) (h0 : Inv 0 δ) (hs : ∀ i d δ, items[i]? = some d → Inv i δ → ∃ δ1 δ2, g d δ = .ok δ1 ∧ b δ1 = .ok (.nx δ2) ∧ Inv (i + 1) δ2) :
    ∃ δ', forF g b items δ = .ok (.nx δ') ∧ Inv items.length δ' := by
  obtain ⟨δ', e, h⟩ := forF_ix Inv items items 0 δ rfl h0 hs
  exact ⟨δ', e, by rw [Nat.zero_add] at h; exact h⟩
theorem aug_S {δ : DEnv} {i : Nat} {f : FE} {a b : List Nat} (h0 : slotD δ i = some (.im (.str (tx a)))) (h : f δ = .ok (.im (.str (tx b)))) (hl : a.length + b.length ≤ 1000000) : sAugF i gAddS f δ = .ok (.nx (δ.set i (some (.im (.str (tx (a ++ b))))))) := aug_ok h0 h (addS_tx hl) rfl
theorem add_S {δ : DEnv} {fa fb : FE} {a b : List Nat} (h0 : fa δ = .ok (.im (.str (tx a)))) (h : fb δ = .ok (.im (.str (tx b)))) (hl : a.length + b.length ≤ 1000000) : fOp gAdd fa fb δ = .ok (.im (.str (tx (a ++ b)))) := op_ok h0 h (add_tx hl)
theorem lc2_ok {α β : Type} {e1 : α → D} {us : α → List β} {e2 h : β → D} {g1 g2 : FG} {i2 : FI} {f : FE} {vs2 : List Nat} {δ0 : DEnv} : ∀ (ts : List α) (acc : List D), acc.length + (ts.flatMap us).length ≤ 16777216 →
    (∀ a ∈ ts, ∃ δ1, g1 (e1 a) δ0 = .ok δ1 ∧ i2 δ1 = .ok ((us a).map e2) ∧ ∀ b ∈ us a, ∃ δ2 r, g2 (e2 b) (wipeD δ1 vs2) = .ok δ2 ∧ f δ2 = .ok r ∧ r.dat = some (h b)) → lc2F g1 i2 g2 tYes f vs2 δ0 (ts.map e1) acc = .ok (acc ++ (ts.flatMap us).map h)
  | [], acc, _, _ => by rw [List.map_nil, lc2F, List.flatMap_nil, List.map_nil, List.append_nil]
  | d :: ds, acc, hl, hs => by
    obtain ⟨δ1, e1', e2', e3⟩ := hs d (List.mem_cons_self ..)
    rw [List.flatMap_cons, List.length_append] at hl
    rw [List.map_cons, lc2F, e1']
    show (calm (i2 δ1)).bind _ = _
    rw [e2']
    show (lcF g2 tYes f (wipeD δ1 vs2) ((us d).map _) acc).bind _ = _
    rw [lc_ok (us d) acc (by omega) e3, bind_ok, lc2_ok ds _ (by rw [List.length_append, List.length_map]; omega) fun d hd => hs d (List.mem_cons_of_mem _ hd), List.flatMap_cons, List.map_append, List.append_assoc]
theorem flc2_ok {α β : Type} {e1 : α → D} {us : α → List β} {e2 h : β → D} {g1 g2 : FG} {i1 i2 : FI} {f : FE} {vs vs2 : List Nat} {δ : DEnv} {ts : List α} (hi : i1 δ = .ok (ts.map e1)) (hl : (ts.flatMap us).length ≤ 16777216)
    (hs : ∀ a ∈ ts, ∃ δ1, g1 (e1 a) (wipeD δ vs) = .ok δ1 ∧ i2 δ1 = .ok ((us a).map e2) ∧ ∀ b ∈ us a, ∃ δ2 r, g2 (e2 b) (wipeD δ1 vs2) = .ok δ2 ∧ f δ2 = .ok r ∧ r.dat = some (h b)) : fLc2 i1 g1 i2 g2 tYes f vs vs2 δ = .ok (.ol ((ts.flatMap us).map h)) := by
  unfold fLc2
  rw [hi, bind_ok, lc2_ok ts [] (by simpa using hl) hs]
  rfl
theorem putD_keys {κ : Type} [DecidableEq κ] {kvs : List (κ × D)} {k : κ} {v : D} {kv : κ × D} (h : kv ∈ putD kvs k v) : (∃ kw ∈ kvs, kw.1 = kv.1) ∨ kv.1 = k := by
  unfold putD at h
  split at h
  · obtain ⟨kw, h1, h2⟩ := List.mem_map.mp h
    refine .inl ⟨kw, h1, ?_⟩
    rw [← h2]
    split <;> rfl
  · rcases List.mem_append.mp h with z | z
    · exact .inl ⟨kv, z, rfl⟩
    · exact .inr (by rw [List.mem_singleton.mp z])
theorem putD_len {κ : Type} [DecidableEq κ] {kvs : List (κ × D)} {k : κ} {v : D} : (putD kvs k v).length ≤ kvs.length + 1 := by
  unfold putD
  split
  · rw [List.length_map]; omega
  · rw [List.length_append]; exact Nat.le_refl _
theorem putD_new {κ : Type} [DecidableEq κ] {kvs : List (κ × D)} {k : κ} {v : D} (h : valD kvs k = none) : putD kvs k v = kvs ++ [(k, v)] := by
  unfold putD
  rw [if_neg]
  intro z
  unfold valD at h
  rw [Option.map_eq_none_iff, List.find?_eq_none] at h
  obtain ⟨kv, h1, h2⟩ := List.any_eq_true.mp z
  exact h kv h1 h2
theorem wh_ok {t : FT} {b : FS} (Inv : Nat → DEnv → Prop) (Post : DEnv → Prop) (M : Nat) (hs : ∀ n δ, Inv n δ → (t δ = .ok false ∧ Post δ) ∨ (n < M ∧ t δ = .ok true ∧ ∃ δ', b δ = .ok (.nx δ') ∧ Inv (n + 1) δ')) :
    ∀ (f n : Nat) (δ : DEnv), Inv n δ → n ≤ M → M - n < f → ∃ δ', whF t b f δ = .ok (.nx δ') ∧ Post δ'
  | 0, n, δ, _, _, h => absurd h (Nat.not_lt_zero _)
  | f + 1, n, δ, hi, hn, hf => by
    rcases hs n δ hi with ⟨h1, h2⟩ | ⟨h1, h2, δ', h3, h4⟩
    · exact ⟨δ, by rw [whF, h1]; rfl, h2⟩
    · obtain ⟨δ2, e, p⟩ := wh_ok Inv Post M hs f (n + 1) δ' h4 (by omega) (by omega)
      refine ⟨δ2, ?_, p⟩
      rw [whF, h2]
      show (b δ).bind _ = _
      rw [h3]
      exact e
theorem tup1 {faa : FA} {δ : DEnv} {a : D} (h : faa δ = .ok [.im a]) : fTup faa δ = .ok (.im (.tuple [a])) := tup_ok h rfl (show 1 ≤ 16777216 by decide)
theorem tup2 {faa : FA} {δ : DEnv} {a b : D} (h : faa δ = .ok [.im a, .im b]) : fTup faa δ = .ok (.im (.tuple [a, b])) := tup_ok h rfl (show 2 ≤ 16777216 by decide)
theorem tup3 {faa : FA} {δ : DEnv} {a b c : D} (h : faa δ = .ok [.im a, .im b, .im c]) : fTup faa δ = .ok (.im (.tuple [a, b, c])) := tup_ok h rfl (show 3 ≤ 16777216 by decide)
/-! ### with draws -/
section
variable {δ δ' δ1 δ2 : DEnv} {s t a b : FS} {f fa fb fc fk fv : FE} {faa : FA} {ft fu : FT} {g : FG} {r r1 r2 r3 x y z : R} {v : SV} {d : D} {ds xs ys : List D} {rs : List R} {i n : Nat} {N : List Str} {F : FD} {P : R → Prop} {PF : Fl → Prop} {PX : Xn → Prop}
theorem sat_ok {α : Type} {t : Tr α} {a : α} {P : α → Prop} (h : t = .ok a) (p : P a) : t.sat P PX := by rw [h]; exact p
theorem sat_sq (h : (s δ).sat (fun o => ∃ δ', o = .nx δ' ∧ (t δ').sat PF PX) PX) : (sSq s t δ).sat PF PX := Tr.sat_bind.mpr (Tr.sat_of h fun o ho => by
  obtain ⟨δ', rfl, h'⟩ := ho
  exact h')
theorem sat_sqo (h : s δ = .ok (.nx δ')) (h' : (t δ').sat PF PX) : (sSq s t δ).sat PF PX := by rw [sq_nx h]; exact h'
theorem sat_set (h : (f δ).sat (fun r => ∃ v, r.sv = some v ∧ PF (.nx (δ.set i (some v)))) PX) : (sSetF i f δ).sat PF PX := Tr.sat_bind.mpr (Tr.sat_of h fun r hr => by
  obtain ⟨v, e, p⟩ := hr
  try dsimp only
  rw [e]
  exact p)
theorem sat_app (h0 : slotD δ i = some (.ol xs)) (hl : xs.length < 16777216) (h : (f δ).sat (fun r => ∃ d, r.dat = some d ∧ PF (.nx (δ.set i (some (.ol (xs ++ [d])))))) PX) : (sAppF i f δ).sat PF PX := by
  unfold sAppF
  rw [h0]
  refine Tr.sat_bind.mpr (Tr.sat_of h fun r hr => ?_)
  obtain ⟨d, e, p⟩ := hr
  try dsimp only
  rw [e]
  try dsimp only
  rw [decide_eq_true hl]
  exact p
theorem sat_ret (h : (f δ).sat (fun r => PF (.rt r)) PX) : (sRetF f δ).sat PF PX := Tr.sat_bind.mpr (Tr.sat_of h fun r hr => hr)
theorem sat_fn (h : (s (startD N rs)).sat (fun o => ∃ r, o = .rt r ∧ r.given = true ∧ P r) PX) : (fnF N s rs).sat P PX := Tr.sat_bind.mpr (Tr.sat_of h fun o ho => by
  obtain ⟨r, rfl, e, p⟩ := ho
  try dsimp only
  rw [e]
  exact p)
theorem calm_mk {α : Type} {t : Tr α} {P : α → Prop} (h : t.sat P fun _ => False) : (calm t).sat P PX := by
  induction t with
  | ok a => exact h
  | ex x => exact h.elim
  | no => exact h.elim
  | draw m k ih => exact ⟨h.1, h.2.1, fun r r0 r1 => ih r (h.2.2 r r0 r1)⟩
theorem sat_callC (h : (faa δ).sat (fun rs => (rs.all plainR && decide (rs.length = n)) = true ∧ (F rs).sat P fun _ => False) PX) : (fCallC n F faa δ).sat P PX := Tr.sat_bind.mpr (Tr.sat_of h fun rs hr => by
  obtain ⟨e, p⟩ := hr
  rw [e]
  exact calm_mk p)
theorem sat_op {gg : G2} (h : (fa δ).sat (fun x => (fb δ).sat (fun y => (gg x y).sat P PX) PX) PX) : (fOp gg fa fb δ).sat P PX := Tr.sat_bind.mpr (Tr.sat_of h fun x hx => Tr.sat_bind.mpr hx)
theorem sat_cons {PA : List R → Prop} (h : (f δ).sat (fun r => (faa δ).sat (fun rs => PA (r :: rs)) PX) PX) : (aCons f faa δ).sat PA PX := Tr.sat_bind.mpr (Tr.sat_of h fun r hr => Tr.sat_bind.mpr hr)
theorem sat_tup (h : (faa δ).sat (fun rs => ∃ ds, dats rs = some ds ∧ ds.length ≤ 16777216 ∧ P (.im (.tuple ds))) PX) : (fTup faa δ).sat P PX := Tr.sat_bind.mpr (Tr.sat_of h fun rs hr => by
  obtain ⟨ds, e, hl, p⟩ := hr
  try dsimp only
  rw [e]
  try dsimp only
  unfold szOk
  rw [decide_eq_true hl]
  exact p)
theorem sat_call {gg : G1} (h : (faa δ).sat (fun rs => (gg rs).sat P PX) PX) : (fCall gg faa δ).sat P PX := Tr.sat_bind.mpr h
theorem sat_mtk {okB : R → Bool} {gg : GM} (h : f δ = .ok r) (ho : okB r = true) (ha : (faa δ).sat (fun rs => (gg r rs).sat P PX) PX) : (fMtK okB gg f faa δ).sat P PX := by
  unfold fMtK
  rw [h, bind_ok, ho]
  exact Tr.sat_bind.mpr ha
theorem sat_take {fm : FE} {m : Nat} (hd : f δ = .ok .drw) (hm : fm δ = .ok (.im (.int (m : Nat)))) (h1 : 1 ≤ m) (h2 : m < 1073741824) (h : ∀ r : Nat, r < m → P (.im (.int (r : Nat)))) : (fCallC 2 F_take (aCons f (aCons fm aNil)) δ).sat P PX := by
  refine sat_callC (sat_ok (cons_ok hd (cons_ok hm rfl)) ⟨rfl, ?_⟩)
  refine ⟨by omega, by omega, fun r r0 r1 => ?_⟩
  have := h r.toNat (by omega)
  rw [Int.toNat_of_nonneg r0] at this
  exact this
theorem sat_forF (Inv : Nat → DEnv → Prop) (items : List D) (hs : ∀ i d δ, items[i]? = some d → Inv i δ → ∃ δ1, g d δ = .ok δ1 ∧ (b δ1).sat (fun o => ∃ δ2, o = .nx δ2 ∧ Inv (i + 1) δ2) PX) : ∀ (ds : List D) (k : Nat) (δ : DEnv), items.drop k = ds → Inv k δ → (forF g b ds δ).sat (fun o => ∃ δ', o = .nx δ' ∧ Inv (k + ds.length) δ') PX
  | [], k, δ, e, h => ⟨δ, rfl, h⟩
  | d :: ds, k, δ, e, h => by
    have e0 : items[k]? = some d := by
      have := List.getElem?_drop (xs := items) (i := k) (j := 0)
      rw [e] at this
      simpa using this.symm
    obtain ⟨δ1, e1, h2⟩ := hs k d δ e0 h
    have e3 : items.drop (k + 1) = ds := by
      rw [← List.drop_drop, e]; rfl
    rw [forF, e1]
    show ((b δ1).bind _).sat _ _
    refine Tr.sat_bind.mpr (Tr.sat_of h2 fun o ho => ?_)
    obtain ⟨δ2, rfl, h3⟩ := ho
    refine Tr.sat_of (sat_forF Inv items hs ds (k + 1) δ2 e3 h3) fun o ho => ?_
    obtain ⟨δ', e4, h4⟩ := ho
    exact ⟨δ', e4, by rw [List.length_cons, show k + (ds.length + 1) = k + 1 + ds.length by omega]; exact h4⟩
theorem sat_for {fi : FI} {items : List D} (Inv : Nat → DEnv → Prop) (hi : fi δ = .ok items) (h0 : Inv 0 δ) (hs : ∀ i d δ, items[i]? = some d → Inv i δ → ∃ δ1, g d δ = .ok δ1 ∧ (b δ1).sat (fun o => ∃ δ2, o = .nx δ2 ∧ Inv (i + 1) δ2) PX) (hp : ∀ δ', Inv items.length δ' → PF (.nx δ')) : (sForF fi g b δ).sat PF PX := by
  unfold sForF
  rw [hi]
  refine Tr.sat_of (sat_forF Inv items hs items 0 δ rfl h0) fun o ho => ?_
  obtain ⟨δ', rfl, h⟩ := ho
  rw [Nat.zero_add] at h
  exact hp δ' h
theorem sat_lcF {PD : D → Prop} {δ0 : DEnv} : ∀ (items acc : List D), acc.length + items.length ≤ 16777216 → (∀ d ∈ items, ∃ δ1, g d δ0 = .ok δ1 ∧ (f δ1).sat (fun r => ∃ d', r.dat = some d' ∧ PD d') fun _ => False) →
    (lcF g tYes f δ0 items acc).sat (fun out => ∃ new, out = acc ++ new ∧ new.length = items.length ∧ ∀ d ∈ new, PD d) PX
  | [], acc, _, _ => ⟨[], (List.append_nil _).symm, rfl, fun d hd => by cases hd⟩
  | d :: ds, acc, hl, hs => by
    rw [List.length_cons] at hl
    obtain ⟨δ1, e1, h2⟩ := hs d (List.mem_cons_self ..)
    rw [lcF, e1]
    show ((calm (f δ1)).bind _).sat _ _
    refine Tr.sat_bind.mpr (Tr.sat_of (calm_mk h2) fun r hr => ?_)
    obtain ⟨d', e3, p⟩ := hr
    try dsimp only
    rw [e3]
    try dsimp only
    rw [decide_eq_true (by omega)]
    refine Tr.sat_of (sat_lcF ds (acc ++ [d']) (by rw [List.length_append]; simp; omega) fun d hd => hs d (List.mem_cons_of_mem _ hd)) fun out ho => ?_
    obtain ⟨new, e4, e5, e6⟩ := ho
    refine ⟨d' :: new, by rw [e4, List.append_assoc]; rfl, by rw [List.length_cons, List.length_cons, e5], fun x hx => ?_⟩
    rcases List.mem_cons.mp hx with z | z
    · rw [z]; exact p
    · exact e6 x z
theorem sat_lc {PD : D → Prop} {fi : FI} {vs : List Nat} (hi : (fi δ).sat (fun items => items.length ≤ 16777216 ∧ (∀ d ∈ items, ∃ δ1, g d (wipeD δ vs) = .ok δ1 ∧ (f δ1).sat (fun r => ∃ d', r.dat = some d' ∧ PD d') fun _ => False) ∧ ∀ out : List D, out.length = items.length → (∀ d ∈ out, PD d) → P (.ol out)) PX) : (fLc fi g tYes f vs δ).sat P PX := by
  unfold fLc
  refine Tr.sat_bind.mpr (Tr.sat_of hi fun items hr => ?_)
  obtain ⟨hl, h, hp⟩ := hr
  refine Tr.sat_bind.mpr (Tr.sat_of (sat_lcF items [] (by simpa using hl) h) fun out ho => ?_)
  obtain ⟨new, e, e2, e3⟩ := ho
  rw [List.nil_append] at e
  subst e
  exact hp _ e2 e3
theorem rg_ok {m : Nat} (h : m ≤ 1000000) : rgOk ((m : Nat) : Int) = true := by
  unfold rgOk
  exact decide_eq_true (by omega)
/-- range over drawn bounds -/
theorem sat_R1 {PI : List D → Prop} (h : (faa δ).sat (fun rs => ∃ m : Nat, rs = [.im (.int (m : Nat))] ∧ m ≤ 1000000 ∧ PI ((List.range m).map fun i => .int (i : Nat))) PX) : (iR1 faa δ).sat PI PX := by
  unfold iR1
  refine Tr.sat_bind.mpr (Tr.sat_of h fun rs hr => ?_)
  refine hr.elim fun m hr2 => ?_
  have p := hr2.2.2
  have hm := hr2.2.1
  rw [hr2.1]
  show (gd (rgOk ((m : Nat) : Int)) (.ok (intsD 0 ((m : Nat) : Int).toNat))).sat PI PX
  have : rgOk ((m : Nat) : Int) = true := rg_ok hm
  rw [this]
  show PI (intsD 0 ((m : Nat) : Int).toNat)
  have e : intsD 0 ((m : Nat) : Int).toNat = (List.range m).map fun i => PyData.int (i : Nat) := by
    unfold intsD
    rw [Int.toNat_natCast]
    exact List.map_congr_left fun i _ => by rw [Int.zero_add]
  rw [e]
  exact p
theorem R1_ok {m : Nat} (h : faa δ = .ok [.im (.int (m : Nat))]) (hm : m ≤ 1000000) : iR1 faa δ = .ok ((List.range m).map fun i => .int (i : Nat)) := by
  unfold iR1
  rw [h, bind_ok]
  try dsimp only
  have : rgOk ((m : Nat) : Int) = true := rg_ok hm
  rw [this]
  have e : intsD 0 ((m : Nat) : Int).toNat = (List.range m).map fun i => PyData.int (i : Nat) := by
    unfold intsD
    rw [Int.toNat_natCast]
    exact List.map_congr_left fun i _ => by rw [Int.zero_add]
  exact congrArg Tr.ok e
end

end FW
set_option Elab.async false
set_option linter.all false
set_option maxRecDepth 100000
set_option maxHeartbeats 4000000
/-! dicts that are read, own or frozen -/
namespace FW
open PySem PySem.Spec L2 DW
def unK (m : List (D × D)) : List (Key × D) := m.filterMap fun kv => (DW.keyOf kv.1).map fun k => (k, kv.2)
def unT (m : List (D × D)) : List (List Key × D) := (dBody m).filterMap fun kv => match kv.1 with
  | .tuple ds => (DW.keysOf ds).map fun k => (k, kv.2)
  | _ => none
theorem unK_eq : ∀ (ks : List Key) (ds : List D), unK (kdK ks ds) = ks.zip ds
  | [], ds => rfl
  | k :: ks, [] => rfl
  | k :: ks, d :: ds => by
    have ih := unK_eq ks ds
    unfold unK kdK at ih ⊢
    rw [List.map_cons, List.zip_cons_cons, List.filterMap_cons, List.zip_cons_cons]
    simp only [keyOf_keyD, Option.map_some]
    rw [ih]
theorem unT_eq (ks : List (List Key)) (ds : List D) : unT (kdT ks ds) = ks.zip ds := by
  unfold unT
  rw [dBody_T]
  induction ks generalizing ds with
  | nil => rfl
  | cons k ks ih =>
    cases ds with
    | nil => rfl
    | cons d ds =>
      rw [List.map_cons, List.zip_cons_cons, List.filterMap_cons, List.zip_cons_cons]
      simp only [keysOf_map, Option.map_some]
      rw [ih]
theorem isDK_K (ks : List Key) (ds : List D) : isDK (kdK ks ds) = true := by
  unfold kdK
  cases ks with
  | nil => rfl
  | cons k r => cases ds with
    | nil => rfl
    | cons d t => cases k <;> rfl
def dKz : R → Option (List (Key × D))
  | .im (.dict m) => if isDK m = true then some (unK m) else none
  | r => r.dK
def dTz : R → Option (List (List Key × D))
  | .im (.dict m) => if isDK m = true then none else some (unT m)
  | r => r.dT
section
variable {K : PySem.W.Frag} {w : Option Dw} {G : Gd} {F F1 F2 F0 H H0 H1 H2 : Hp} {σ σ2 : L2.St} {δ δ2 : DEnv} {v y : V} {r r1 r2 : R}
theorem readK (le : Sub F1 H1) (q : RepR K w H F1 H1 v r) {kvs : List (Key × D)} (e : dKz r = some kvs) : ∃ p vs, v = .ref p ∧ Rd H1 p (.dK vs) ∧ RepKV K F1 vs kvs := by
  cases r with
  | im d =>
    cases d with
    | dict m =>
      cases q with
      | dicK h hl l =>
        have e : (if isDK (kdK _ _) = true then some (unK (kdK _ _)) else none) = some kvs := e
        rw [if_pos (isDK_K _ _), unK_eq] at e
        obtain rfl := Option.some.inj e
        exact ⟨_, _, rfl, .inr ⟨_, le _ _ h⟩, RepL.kv hl l⟩
      | dicT h hl l =>
        have e : (none : Option (List (Key × D))) = some kvs := e
        cases e
    | _ => cases e
  | oK ys => obtain ⟨p, vs, a, b, _, d⟩ := RepR.isK q (kvs := kvs) e; exact ⟨p, vs, a, .inl b, d⟩
  | bK ys => obtain ⟨p, vs, a, b, _, d⟩ := RepR.isK q (kvs := kvs) e; exact ⟨p, vs, a, .inl b, d⟩
  | _ => cases e
theorem readT (le : Sub F1 H1) (q : RepR K w H F1 H1 v r) {kvs : List (List Key × D)} (e : dTz r = some kvs) : ∃ p vs, v = .ref p ∧ Rd H1 p (.dT vs) ∧ RepKV K F1 vs kvs := by
  cases r with
  | im d =>
    cases d with
    | dict m =>
      cases q with
      | dicK h hl l =>
        have e : (if isDK (kdK _ _) = true then none else some (unT (kdK _ _))) = some kvs := e
        rw [if_pos (isDK_K _ _)] at e; cases e
      | dicT h hl l =>
        rename_i a o ks vs ds
        have e : some (unT (kdT ks ds)) = some kvs := e
        rw [unT_eq] at e
        obtain rfl := Option.some.inj e
        exact ⟨_, _, rfl, .inr ⟨_, le _ _ h⟩, RepL.kv hl l⟩
    | _ => cases e
  | oT ys => obtain ⟨p, vs, a, b, _, d⟩ := RepR.isT q (kvs := kvs) e; exact ⟨p, vs, a, .inl b, d⟩
  | bT ys => obtain ⟨p, vs, a, b, _, d⟩ := RepR.isT q (kvs := kvs) e; exact ⟨p, vs, a, .inl b, d⟩
  | _ => cases e
/-- what a dict holds at a key (none: nothing is told) -/
def getZ (x y : R) : Option (Option D) := match dKz x, dTz x, y with
  | some kvs, _, .im d => (DW.keyOf d).map (valD kvs)
  | none, some kvs, .im (.tuple ds) => (DW.keysOf ds).map (valD kvs)
  | _, _, _ => none
theorem getZ_ok {x : V} {o : Option D} (le : Sub F H) (g : getZ r1 r2 = some o) (q1 : RepR K w H0 F H x r1) (q2 : RepR K w H0 F H y r2) :
    ∃ p ov, x = .ref p ∧ DGet H p y ov ∧ ((o = none ∧ ov = none) ∨ ∃ d v, o = some d ∧ ov = some v ∧ RepD K F v d) := by
  unfold getZ at g
  split at g
  · rename_i kvs d e1
    cases ek : DW.keyOf d with
    | none => rw [ek] at g; cases g
    | some k =>
      rw [ek] at g
      obtain rfl := Option.some.inj g
      obtain ⟨p, vs, rfl, h, l⟩ := readK le q1 e1
      obtain rfl := RepD.key q2 ek
      exact ⟨p, _, rfl, .inl ⟨vs, k, h, rfl, rfl⟩, l.val⟩
  · rename_i kvs ds e0 e1
    cases ek : DW.keysOf ds with
    | none => rw [ek] at g; cases g
    | some ks =>
      rw [ek] at g
      obtain rfl := Option.some.inj g
      obtain ⟨p, vs, rfl, h, l⟩ := readT le q1 e1
      obtain ⟨b, us, rfl, hb, lb⟩ := RepR.tuple (K := K) (w := w) (H := H0) le q2 (xs := ds) rfl
      obtain rfl := RepL.keys lb ek
      exact ⟨p, _, rfl, .inr ⟨vs, ks, b, h, rfl, le _ _ hb, rfl⟩, l.val⟩
  · cases g
def gDgz : G2 := fun x y => match getZ x y with
  | some (some d) => .ok (.im d)
  | _ => .no
def gDinz (neg : Bool) : G2 := fun x y => match getZ y x with
  | some o => .ok (.im (.bool (if neg then !o.isSome else o.isSome)))
  | _ => .no
end
section
variable {K : PySem.W.Frag} {w : Option Dw} {G : Gd} {F F1 F2 F0 H H1 H2 : Hp} {σ σ2 : L2.St} {δ δ2 : DEnv}
variable {X : Cx} {W : WX} {st : Bool} {tg iter e a b c o elt kx vx : Expr} {es rest : List Expr} {fe fa fb fc fo fk fv : FE} {ft fu : FT} {faa : FA} {pos p np p2 apos cpos : Pos} {s : Stmt}
theorem e_dgz (hu : X.A.units + 1 < cLine) (ha : E_ X G W a fa) (hb : E_ X G W b fb) (hs : NoSl b := by exact fun _ _ => rfl) : E_ X G W (.Subscript a b pos) (fOp gDgz fa fb) :=
  PE.imp (pe_dget hu ha hb hs) fun σ H Q ⟨F, δ, P, PX, S, q, k, xk⟩ => by
    refine ⟨F, δ, _, PX, S, Tr.sat_bind.mp q, fun x F1 H1 r1 x1 q1 p1 => ?_, xk⟩
    refine dT.next (we := wE X.K fb) S x1 xk (Tr.sat_bind.mp p1) fun y F2 H2 r2 x2 q2 p2 => ?_
    unfold gDgz at p2
    split at p2
    · rename_i d ez
      obtain ⟨p, ov, e, g', z⟩ := getZ_ok x2.le ez (q1.to x2) (q2.back x1)
      rcases z with ⟨z, _⟩ | ⟨d', v, z, rfl, rd⟩
      · cases z
      · cases z
        exact ⟨p, v, e, g', k v F2 H2 (.im d) (x1.trans x2) rd p2⟩
    · exact p2.elim
theorem dinz_of {neg : Bool} {σ : L2.St} {H : Hp} {Q : VK} (h : dT K G W (wE K (fOp (gDinz neg) fa fb)) σ H Q) : dT K G W (wE K fa) σ H fun y H1 => dT K G W (wE K fb) σ H1 fun x H2 => ∃ a o, x = .ref a ∧ DGet H2 a y o ∧ Q (.bl (if neg then !o.isSome else o.isSome)) H2 := by
  obtain ⟨F, δ, P, PX, S, p, q, xk⟩ := h
  refine ⟨F, δ, _, PX, S, Tr.sat_bind.mp p, fun x F1 H1 r1 x1 q1 p1 => ?_, xk⟩
  refine dT.next (we := wE K fb) S x1 xk (Tr.sat_bind.mp p1) fun y F2 H2 r2 x2 q2 p2 => ?_
  unfold gDinz at p2
  split at p2
  · rename_i o ez
    obtain ⟨p, ov, e, g', z⟩ := getZ_ok x2.le ez (q2.back x1) (q1.to x2)
    refine ⟨p, ov, e, g', ?_⟩
    have eo : ov.isSome = o.isSome := by
      rcases z with ⟨rfl, rfl⟩ | ⟨d', v, rfl, rfl, _⟩ <;> rfl
    rw [eo]
    exact q _ F2 H2 (.im _) (x1.trans x2) (.bl _) p2
  · exact p2.elim
theorem e_dinz (hu : X.A.units + 1 < cLine) (ha : E_ X G W a fa) (hb : E_ X G W b fb) (hm : behindInMarks .In b = false := by rfl) : E_ X G W (.Compare a [.In] [b] pos) (fOp (gDinz false) fa fb) :=
  PE.imp (pe_cmp (pc_din hu ha hb) hm) fun σ H Q h => dinz_of h
theorem e_dnotinz (hu : X.A.units + 1 < cLine) (ha : E_ X G W a fa) (hb : E_ X G W b fb) (hm : behindInMarks .NotIn b = false := by rfl) : E_ X G W (.Compare a [.NotIn] [b] pos) (fOp (gDinz true) fa fb) :=
  PE.imp (pe_cmp (pc_dnotin hu ha hb) hm) fun σ H Q h => dinz_of h
theorem t_dinz (hu : X.A.units + 1 < cLine) (ha : E_ X G W a fa) (hb : E_ X G W b fb) (hm : behindInMarks .In b = false := by rfl) : T_ X G W (.Compare a [.In] [b] pos) (FW.tB (fOp (gDinz false) fa fb)) :=
  PT.imp (pt_cmp (pc_din hu ha hb) hm) fun σ H Q ⟨F, δ, P, PX, S, q, k, xk⟩ => dinz_of (tB_of ⟨F, δ, P, PX, S, Tr.sat_of (Tr.sat_bind.mp q) fun r qr => by
    split at qr
    · exact ⟨_, rfl, qr⟩
    · exact qr.elim, k, xk⟩)
theorem t_dnotinz (hu : X.A.units + 1 < cLine) (ha : E_ X G W a fa) (hb : E_ X G W b fb) (hm : behindInMarks .NotIn b = false := by rfl) : T_ X G W (.Compare a [.NotIn] [b] pos) (FW.tB (fOp (gDinz true) fa fb)) :=
  PT.imp (pt_cmp (pc_dnotin hu ha hb) hm) fun σ H Q ⟨F, δ, P, PX, S, q, k, xk⟩ => dinz_of (tB_of ⟨F, δ, P, PX, S, Tr.sat_of (Tr.sat_bind.mp q) fun r qr => by
    split at qr
    · exact ⟨_, rfl, qr⟩
    · exact qr.elim, k, xk⟩)
/-- d.get(k), d.get(k, x) -/
def isDz (x : R) : Bool := (dKz x).isSome || (dTz x).isSome
theorem isDz_ok {v : V} {r : R} {H0 F1 H1 : Hp} (le : Sub F1 H1) (q : RepR K w H0 F1 H1 v r) (e : isDz r = true) : ∃ p, v = .ref p ∧ IsD H1 p := by
  unfold isDz at e
  rw [Bool.or_eq_true] at e
  rcases e with e | e
  · obtain ⟨kvs, e⟩ := Option.isSome_iff_exists.mp e
    obtain ⟨p, vs, a, b, _⟩ := readK le q e
    exact ⟨p, a, .inl ⟨vs, b⟩⟩
  · obtain ⟨kvs, e⟩ := Option.isSome_iff_exists.mp e
    obtain ⟨p, vs, a, b, _⟩ := readT le q e
    exact ⟨p, a, .inr ⟨vs, b⟩⟩
def gGet1 (x y : R) : Tr R := match getZ x y with
  | some (some d) => .ok (.im d)
  | some none => .ok (.im .none)
  | none => .no
def fGet1 (fa fb : FE) : FE := fun δ => (fa δ).bind fun x => gd (isDz x) ((fb δ).bind fun y => gGet1 x y)
theorem e_get1 (hu : X.A.units + 1 < cLine) (ha : E_ X G W a fa) (hb : E_ X G W b fb) (hbase : attributeBase a "get" X.env (eval a X.env) = eval a X.env := by rfl)
    (few : ((backTo cpos (starEach [b] X.env)).all (fun x => !x.1) && (backToKw cpos (keywordEach [] X.env)).all (fun x => x.1.isSome) && decide (([b] : List Expr).length + ([] : List Keyword).length + (if ([] : List Keyword).isEmpty then 0 else 1) < 30)) = true := by rfl) (hline : (apos.endLine == cpos.line) = true := by rfl) (trees : backTo cpos (starEach [b] X.env) = [(false, eval b X.env)] := by rfl) :
    E_ X G W (.Call (.Attribute a "get" apos) [b] [] cpos) (fGet1 fa fb) :=
  PE.imp (pe_dget1 hu ha hb ⟨hbase, few, hline, trees⟩) fun σ H Q ⟨F, δ, P, PX, S, q, k, xk⟩ => by
    refine ⟨F, δ, _, PX, S, Tr.sat_bind.mp q, fun x F1 H1 r1 x1 q1 p1 => ?_, xk⟩
    obtain ⟨h1, p1⟩ := gd_sat p1
    obtain ⟨p, ex, hd⟩ := isDz_ok x1.le q1 h1
    refine ⟨p, ex, hd, ?_⟩
    refine dT.next (we := wE X.K fb) S x1 xk (Tr.sat_bind.mp p1) fun y F2 H2 r2 x2 q2 p2 => ?_
    unfold gGet1 at p2
    split at p2
    · rename_i d ez
      obtain ⟨p', ov, e, g', z⟩ := getZ_ok x2.le ez (q1.to x2) (q2.back x1)
      rw [ex] at e
      cases e
      rcases z with ⟨z, _⟩ | ⟨d', v, z, rfl, rd⟩
      · cases z
      · cases z
        exact ⟨_, g', k v F2 H2 (.im d) (x1.trans x2) rd p2⟩
    · rename_i ez
      obtain ⟨p', ov, e, g', z⟩ := getZ_ok x2.le ez (q1.to x2) (q2.back x1)
      rw [ex] at e
      cases e
      rcases z with ⟨_, rfl⟩ | ⟨d', v, z, _, _⟩
      · exact ⟨_, g', k .non F2 H2 (.im .none) (x1.trans x2) .non p2⟩
      · cases z
    · exact p2.elim
/-- {k: v}, k an int or a text -/
def fDispK (fk fv : FE) : FE := fun δ => (fk δ).bind fun r => match r with
  | .im kd => match DW.keyOf kd with
    | some k => (fv δ).bind fun r2 => match r2.dat with
      | some d => .ok (.oK [(k, d)])
      | none => .no
    | none => .no
  | _ => .no
theorem e_dispK (hu : X.A.units + 1 < cLine) (hk : E_ X G W kx fk) (hv : E_ X G W vx fv) : E_ X G W (.Dict [some kx] [vx] pos) (fDispK fk fv) :=
  PE.imp (pe_disp (pps_cons hk hv pps_nil) rfl rfl (fun z => nomatch z) (show (1 : Nat) ≤ 15 by decide)) fun σ H Q ⟨F, δ, P, PX, S, q, k, xk⟩ p hp => by
    obtain ⟨x0, n, nd⟩ := new_dict (u := .dK []) S.ext.stay hp
    refine dT.next (we := wE X.K fk) S x0 xk (Tr.sat_bind.mp q) fun x F1 H1 r x1 q1 p1 => ?_
    split at p1
    · rename_i kd
      split at p1
      · rename_i kk ek
        refine dT.next (we := wE X.K fv) S (x0.trans x1) xk (Tr.sat_bind.mp p1) fun y F2 H2 r2 x2 q2 p2 => ?_
        split at p2
        · rename_i d ed
          obtain ⟨F3, x3, _, rd⟩ := q2.freeze x2 ed
          have x13 := x1.trans x3
          obtain ⟨h', n'⟩ := x13.keepN (p := p) upd_same n nd
          obtain rfl := RepD.key q1 ek
          refine ⟨h', [(kk, y)], rfl, (show (1 : Nat) ≤ 15 by decide), ?_⟩
          have xw : Ext G.w F H F3 (upd H2 p (.dK [(kk, y)])) := (x0.trans x13).write hp h' n' nd
          exact k _ F3 _ (.oK [(kk, d)]) xw ⟨p, _, rfl, hp, upd_same, n', nd, .cons rd .nil⟩ p2
        · exact p2.elim
      · exact p1.elim
    · exact p1.elim
/-- a list times an int -/
def kMulL : KO := fun r1 r2 P => ∃ xs n, r1.own = some xs ∧ r2 = .im (.int n) ∧ 0 ≤ n ∧ n ≤ 1000 ∧ xs.length ≤ 1000 ∧ P (.ol (List.replicate n.toNat xs).flatten)
theorem opd_mulL : OpD K rRep kMulL := by
  rintro w H0 F H x y r1 r2 P Q x0 q1 q2 ⟨xs, n, e1, rfl, h0, h1, h2, p⟩ k
  obtain ⟨a, vs, rfl, ha, la⟩ := q1.owns x0.le e1
  cases q2
  refine ⟨a, n, vs, rfl, rfl, ha, by omega, by omega, ?_, fun q hq => ?_⟩
  · rw [RepL.length la, sizeLine_eq]
    have : xs.length * n.toNat ≤ 1000 * 1000 := Nat.mul_le_mul h2 (by omega)
    omega
  · obtain ⟨x1, r⟩ := new_list (K := K) x0 hq (RepL.rep la n.toNat)
    exact k _ _ _ _ x1 r p
def gMulL : G2 := fun x y => match x.own, y with
  | some xs, .im (.int n) => gd (decide (0 ≤ n) && decide (n ≤ 1000) && decide (xs.length ≤ 1000)) (.ok (.ol (List.replicate n.toNat xs).flatten))
  | _, _ => .no
theorem kg_mulL : KG kMulL gMulL := by
  intro a b P PX h
  unfold gMulL at h
  split at h
  · rename_i xs n e
    obtain ⟨h1, h2⟩ := gd_sat h
    simp only [Bool.and_eq_true, decide_eq_true_eq] at h1
    exact ⟨xs, n, e, rfl, h1.1.1, h1.1.2, h1.2, h2⟩
  · exact h.elim
theorem e_mulL (ha : E_ X G W a fa) (hb : E_ X G W b fb) : E_ X G W (.BinOp a .Mult b pos) (fOp gMulL fa fb) := e_op (de_op op_rep opd_mulL ha hb) kg_mulL
/-- a, b = x, y of names, told together -/
def sParF (i j : Nat) (fa : FA) : FS := fun δ => (fa δ).bind fun rs => match rs with
  | [.im d1, .im d2] => .ok (.nx ((δ.set i (some (.im d1))).set j (some (.im d2))))
  | _ => .no
theorem s_par {i j : Nat} {x y : Str} {px py pt : Pos} {kt : Nat} {k2 : Nat} {pt2 : Pos} (hc : X.calm = true) (hN : X.N.Nodup) (hi : X.N[i]? = some x) (hj : X.N[j]? = some y) (hij : i ≠ j)
    (hx : X.env.scope.names.lookup x = some .local) (hy : X.env.scope.names.lookup y = some .local) (ha : A_ X G W [a, b] faa)
    (hw : swappedStores [.Tuple [.Name x px, .Name y py] kt pt] (.Tuple [a, b] k2 pt2) X.env = pure (some [x, y]) := by rfl)
    (hs : swapsWithSole [.Tuple [.Name x px, .Name y py] kt pt] (.Tuple [a, b] k2 pt2) pos.line X.env = pure false := by rfl) :
    S_ X G W (.Assign [.Tuple [.Name x px, .Name y py] kt pt] (.Tuple [a, b] k2 pt2) pos) (sParF i j faa) :=
  PS.imp (ps_par hc hN hi hj hij hx hy ha hw hs) fun D σ H ⟨F, δ, E, S, q, k⟩ => by
    refine ⟨F, δ, _, _, S, Tr.sat_bind.mp q, fun vs F1 H1 rs x1 q1 p1 => ?_, k.xok S⟩
    split at p1
    · cases q1 with
      | cons r1 t =>
        cases t with
        | cons r2 t =>
          cases t
          exact ⟨_, _, rfl, k.nx _ F1 H1 _ x1.fs (((S.to x1).store (s := .im _) r1 fun z => nomatch z).store (s := .im _) r2 fun z => nomatch z) p1⟩
    · exact p1.elim
end
end FW
set_option Elab.async false
set_option linter.all false
set_option maxRecDepth 100000
set_option maxHeartbeats 4000000
/-! sorted(list of data) -/
namespace FW
open PySem PySem.Spec L2 DW
open PySem.W (alike dataLt dataLe AllAlike Sortable EachIs sorted_data)
def rSortDt (K : PySem.W.Frag) : List V → Hp → VK → Prop := fun vs H Q => ∃ (a : Addr) (us : List V) (ds : List D), vs = [V.ref a] ∧ SqL K H a us ∧ DpAll K H us ds ∧ us.length = ds.length ∧ AllAlike ds ∧ Sortable ds ∧ (∀ d ∈ ds, d.depth ≤ 60) ∧
  ∀ p, H p = none → Q (.ref p) (upd H p (.lst (((us.zip ds).mergeSort (dataLe false fun b => b.2)).map (·.1))))
section
variable {X : Cx}
theorem eachZ {us : List V} {vs : List Value} {ds : List D} (r : Vals us vs) : us.length = ds.length → EachIs (fun v (b : V × D) => RelV b.1 v) vs (us.zip ds) := by
  intro hl
  unfold Vals at r
  induction r generalizing ds with
  | nil => cases ds with
    | nil => exact .nil
    | cons d t => cases hl
  | cons h t ih => cases ds with
    | nil => cases hl
    | cons d ds => exact .cons h (ih (by simpa using hl))
theorem eachR {h : Heap} {vs : List Value} {ds : List D} {as : List Addr} : ∀ {us : List V}, us.length = ds.length → ReadsAll h vs ds as → EachIs (fun v (b : V × D) => ∃ as, Reads h v b.2 as) vs (us.zip ds) := by
  intro us hl r
  have e := PySem.W.readsAll_each (enc := id) (bs := ds) (h := h) (vs := vs) (as := as) (by rw [List.map_id]; exact r)
  clear r
  induction e generalizing us with
  | nil => cases us with
    | nil => exact .nil
    | cons u t => cases hl
  | cons h1 t ih => cases us with
    | nil => cases hl
    | cons u us => exact .cons h1 (ih (by simpa using hl))
theorem valsE {out : List Value} {bs : List (V × D)} (e : EachIs (fun v (b : V × D) => RelV b.1 v) out bs) : Vals (bs.map (·.1)) out := by
  unfold Vals
  induction e with
  | nil => exact .nil
  | cons h t ih => exact .cons h ih
theorem zip_snd {us : List V} {ds : List D} (hl : us.length = ds.length) : (us.zip ds).map (fun b => b.2) = ds := by
  rw [List.map_snd_zip (by omega)]
theorem cr_sortDt (hu : X.A.units + 64 < cLine) : CallR X (.builtin "sorted") (rSortDt X.K) := by
  intro pins s σ H vs us Q I r h
  obtain ⟨a, xs, ds, rfl, hs, hd, hl, hal, hk, hdep, q⟩ := h
  obtain ⟨its, rv, pl, hz⟩ := I.list hs
  rw [Vals.ref1 r]
  obtain ⟨as, ra⟩ := Dp.readsAll I ds xs its hd rv
  have ez := zip_snd hl
  refine sorted_data (enc := fun b : V × D => b.2) (bs := xs.zip ds) pl.isList (eachZ rv hl) (eachR hl ra) (by rw [ez]; exact hal) (by rw [ez]; exact hk) (by rw [List.length_zip]; omega) (fun b hb => ?_) fun out h1 h2 => ?_
  · have : b.2 ∈ ds := by rw [← ez]; exact List.mem_map.mpr ⟨b, hb, rfl⟩
    have := hdep _ this
    omega
  · obtain ⟨ep, he'⟩ := PyProof.Rows.sortedAll_at s.heap its out.toArray
    have hv := valsE h2
    have hlen : (((xs.zip ds).mergeSort (dataLe false fun b => b.2)).map (·.1)).length ≤ sizeLine := by
      rw [List.length_map, List.length_mergeSort, List.length_zip]
      omega
    exact ⟨.ref _, upd H (s.heap.objs.size + 1) (.lst (((xs.zip ds).mergeSort (dataLe false fun b => b.2)).map (·.1))), I.laid (t' := s.toks) (fun _ _ => PyProof.Rows.sortedAll_old) (Nat.le_succ _) ⟨hlen, out, ep, hv, he'⟩, rfl, q _ (I.hok.fresh (Nat.le_succ _))⟩
end
/-- .. as data -/
def alikeB (ds : List D) : Bool := ds.all fun d => ds.all fun e => alike d e
def isTup1 : D → Bool
  | .tuple (_ :: _) => true
  | _ => false
def isPlain1 : D → Bool
  | .none => false
  | .tuple _ => false
  | _ => true
def sortB (ds : List D) : Bool := (ds.all isTup1 || ds.all isPlain1) && alikeB ds && PyData.canLayAll0 ds && ds.all fun d => decide (d.depth ≤ 60)
def kSortD : KC := fun rs P => ∃ r ds, rs = [r] ∧ r.lst = some ds ∧ sortB ds = true ∧ P (.ol (ds.mergeSort (dataLe false fun d => d)))
section
variable {K : PySem.W.Frag} {F : Hp}
theorem repZ : ∀ {us : List V} {ds : List D}, RepL K F us ds → ∀ b ∈ us.zip ds, RepD K F b.1 b.2
  | _, _, .nil, b, hb => by cases hb
  | _, _, .cons r t, b, hb => by
    rw [List.zip_cons_cons] at hb
    rcases List.mem_cons.mp hb with rfl | hb
    · exact r
    · exact repZ t b hb
theorem repBs : ∀ {bs : List (V × D)}, (∀ b ∈ bs, RepD K F b.1 b.2) → RepL K F (bs.map (·.1)) (bs.map (·.2))
  | [], _ => .nil
  | b :: r, h => .cons (h b (List.mem_cons_self ..)) (repBs fun b hb => h b (List.mem_cons_of_mem _ hb))
theorem callD_sortD : CallD K (rSortDt K) kSortD := by
  rintro w H0 F H vs rs P Q x0 q ⟨r, ds, rfl, e, hb, p⟩ k
  cases q with
  | cons a t =>
    cases t
    obtain ⟨pp, us, rfl, h, l⟩ := a.list x0.le e
    unfold sortB at hb
    simp only [Bool.and_eq_true, Bool.or_eq_true] at hb
    obtain ⟨⟨⟨h1, h2⟩, h3⟩, h4⟩ := hb
    have hal : AllAlike ds := fun d hd d' hd' => List.all_eq_true.mp (List.all_eq_true.mp h2 d hd) d' hd'
    have hk : Sortable ds := h1.elim (fun z => .inl fun d hd => by
      have := List.all_eq_true.mp z d hd
      cases d with
      | tuple xs => cases xs with
        | nil => cases this
        | cons x r => exact ⟨x, r, rfl⟩
      | _ => cases this) fun z => .inr fun d hd => by
      have := List.all_eq_true.mp z d hd
      cases d with
      | none => cases this
      | tuple xs => cases this
      | _ => exact ⟨(fun z => nomatch z), fun xs z => nomatch z⟩
    refine ⟨pp, us, ds, rfl, h, (RepL.mono x0.le l).dp h3, RepL.length l, hal, hk, fun d hd => of_decide_eq_true (List.all_eq_true.mp h4 d hd), fun q hq => ?_⟩
    have em : ((us.zip ds).mergeSort (dataLe false fun b => b.2)).map (·.2) = ds.mergeSort (dataLe false fun d => d) := by
      have := List.map_mergeSort (r := dataLe false fun b : V × D => b.2) (s := dataLe false fun d : D => d) (f := fun b : V × D => b.2) (l := us.zip ds) (fun _ _ _ _ => rfl)
      rw [zip_snd (RepL.length l)] at this
      exact this
    have rep : RepL K F (((us.zip ds).mergeSort (dataLe false fun b => b.2)).map (·.1)) (ds.mergeSort (dataLe false fun d => d)) := by
      rw [← em]
      exact repBs fun b hb => repZ l b ((List.mergeSort_perm _ _).subset hb)
    obtain ⟨x1, r⟩ := new_list (K := K) x0 hq rep
    exact k _ _ _ _ x1 r p
def gSortD : G1 := fun rs => match rs with
  | [r] => match r.lst with
    | some ds => gd (sortB ds) (.ok (.ol (ds.mergeSort (dataLe false fun d => d))))
    | none => .no
  | _ => .no
theorem kcg_sortD : KCG kSortD gSortD := by
  intro rs P PX h
  unfold gSortD at h
  split at h
  · split at h
    · rename_i ds e
      obtain ⟨h1, h2⟩ := gd_sat h
      exact ⟨_, ds, rfl, e, h1, h2⟩
    · exact h.elim
  · exact h.elim
end
end FW
set_option Elab.async false
set_option linter.all false
set_option maxRecDepth 100000
set_option maxHeartbeats 4000000
namespace FW
open PySem PySem.Spec L2 DW
/-! ### sorted(a dict with int keys) -/
def sortI (ks : List Int) : List Int := ks.mergeSort fun a b => decide (a ≤ b)
theorem sortI_eq {ys ks : List Int} (hp : ys.Perm ks) (hs : ys.Pairwise (· ≤ ·)) : ys = sortI ks := by
  refine List.Perm.eq_of_pairwise (le := (· ≤ ·)) (fun a b _ _ h1 h2 => Int.le_antisymm h1 h2) hs ?_ (hp.trans (List.mergeSort_perm ks _).symm)
  have := List.pairwise_mergeSort (le := fun a b : Int => decide (a ≤ b)) (fun a b c h1 h2 => by
    have h1 := of_decide_eq_true h1
    have h2 := of_decide_eq_true h2
    exact decide_eq_true (Int.le_trans h1 h2)) (fun a b => by
    rw [Bool.or_eq_true]
    exact (Int.le_total a b).imp decide_eq_true decide_eq_true) ks
  exact this.imp fun h => of_decide_eq_true h
def intKeys : List (Key × D) → Option (List Int)
  | [] => some []
  | (.inl i, _) :: r => (intKeys r).map (i :: ·)
  | _ => none
theorem intKeys_eq : ∀ {kvs : List (Key × D)} {ks : List Int}, intKeys kvs = some ks → kvs.map (·.1) = ks.map Sum.inl
  | [], _, h => by cases h; rfl
  | (.inl i, d) :: r, ks, h => by
    unfold intKeys at h
    cases e : intKeys r with
    | none => rw [e] at h; cases h
    | some m =>
      rw [e] at h
      cases h
      rw [List.map_cons, List.map_cons, intKeys_eq e]
  | (.inr s, d) :: r, ks, h => by cases h
def kSortDI : KC := fun rs P => ∃ r kvs ks, rs = [r] ∧ dKz r = some kvs ∧ intKeys kvs = some ks ∧ ks.length < 64 ∧ P (.ol ((sortI ks).map .int))
section
variable {K : PySem.W.Frag} {F : Hp}
theorem intsV : ∀ (ns : List Int), RepL K F (ns.map V.int) (ns.map PyData.int)
  | [] => .nil
  | n :: r => .cons (.int n) (intsV r)
theorem callD_sortDI : CallD K (fun xs H Q => ∃ (a : Addr) (kvs : List (Key × V)) (ks : List Int), xs = [.ref a] ∧ Rd H a (.dK kvs) ∧ kvs.map (·.1) = ks.map Sum.inl ∧ ks.length < 64 ∧
    ∀ (ys : List Int) (p : Addr), ys.Perm ks → ys.Pairwise (· ≤ ·) → H p = none → Q (.ref p) (upd H p (.lst (ys.map V.int)))) kSortDI := by
  rintro w H0 F H vs rs P Q x0 q ⟨r, kvs, ks, rfl, e, ei, hl, p⟩ k
  cases q with
  | cons a t =>
    cases t
    obtain ⟨pp, us, rfl, h, l⟩ := readK x0.le a e
    refine ⟨pp, us, ks, rfl, h, by rw [RepKV.keys l]; exact intKeys_eq ei, hl, fun ys q hp hs hq => ?_⟩
    obtain rfl := sortI_eq hp hs
    obtain ⟨x1, r⟩ := new_list (K := K) x0 hq (intsV (sortI ks))
    exact k _ _ _ _ x1 r p
def gSortDI : G1 := fun rs => match rs with
  | [r] => match dKz r with
    | some kvs => match intKeys kvs with
      | some ks => gd (decide (ks.length < 64)) (.ok (.ol ((sortI ks).map .int)))
      | none => .no
    | none => .no
  | _ => .no
theorem kcg_sortDI : KCG kSortDI gSortDI := by
  intro rs P PX h
  unfold gSortDI at h
  split at h
  · split at h
    · rename_i kvs e
      split at h
      · rename_i ks ei
        obtain ⟨h1, h2⟩ := gd_sat h
        exact ⟨_, kvs, ks, rfl, e, ei, of_decide_eq_true h1, h2⟩
      · exact h.elim
    · exact h.elim
  · exact h.elim
end
end FW
namespace DW
open PySem PySem.Spec L2 PyProof.Rows
/-! ### items() of a dict with tuple keys -/
section
variable {X : Cx} {pins : List (Addr × Obj)} {σ : L2.St} {H : Hp} {s : Shared} {d : Addr} {o : Obj}
theorem frzT2 {kvs : List (List Key × V)} (I : Inv X pins σ H s) (h : H d = some (.frz o (.dT kvs))) :
    (d == sysModules) = false ∧ s.heap.get? d = some o ∧ ∃ (es : Array DictEntry) (ep : Nat), o.data = .dict es ep ∧ s.heap.DictRaw d es ep ∧ es.size = kvs.length ∧
      ∀ (i : Nat) (k : List Key) (v : V), kvs[i]? = some (k, v) → ∃ (hi : i < es.size) (q : Addr), es[i].key = .ref q ∧ H q = some (.tup (k.map kV)) ∧ RelV v es[i].val := by
  obtain ⟨hd, z, hs, xs, pr, o', es, ep, ho, hx, hdt, he, _⟩ := I.hok d _ h
  rw [hd] at ho
  cases ho
  have hz : es.size = kvs.length := by
    have l1 : es.size = xs.length := by rw [← Array.length_toList, he, List.length_map]
    have l2 : kvs.length = xs.length := Paired.length pr
    omega
  refine ⟨hs, hd, es, ep, hdt, ⟨o, hd, hx, hdt⟩, hz, fun i k v e => ?_⟩
  obtain ⟨b, hb, e1, e2, e3⟩ := L2.paired_get pr e
  have hi : i < es.size := by rw [hz]; exact (List.getElem?_eq_some_iff.mp e).1
  have q : es.toList[i]? = some (entryOfKey (tupleKind (mixKind X.prog X.w)) b) := by rw [he, List.getElem?_map, hb]; rfl
  have q2 : es[i] = entryOfKey (tupleKind (mixKind X.prog X.w)) b := by
    have := List.getElem?_eq_some_iff.mp q
    obtain ⟨_, e9⟩ := this
    simpa using e9
  exact ⟨hi, b.2.1, by rw [q2]; rfl, e2, by rw [q2]; exact e3⟩
end
def ItiT (d : Addr) (o : Obj) (kvs : List (List Key × V)) : It :=
  ⟨fun i H => H d = some (.frz o (.dT kvs)) ∧ i < kvs.length, fun i H x H' => ∃ T k v q, kvs[i]? = some (k, v) ∧ x = .ref T ∧ H T = none ∧ H q = some (.tup (k.map kV)) ∧ H' = upd H T (.tup [.ref q, v]), fun i H => H d = some (.frz o (.dT kvs)) ∧ kvs.length ≤ i⟩
theorem turn_itemsT {P : Program} {w : World} {K : PySem.W.Frag} {d : Addr} {o : Obj} {es : Array DictEntry} {ep : Nat} {kvs : List (List Key × V)} {elts : List Expr} {kk : Nat} {tpos : Pos} (it : Addr) (hod : o.data = .dict es ep) :
    Turn P w K (.Tuple elts kk tpos) (ItiT d o kvs) [it] it (fun i h => ∃ ok ov, IsItemIter h it d i kvs.length ep ok ov) where
  mem := by simp
  obj := fun i h st b hb => by
    have e : b = it := by simpa using hb
    subst e
    obtain ⟨ok, ov, e⟩ := st
    exact ⟨_, e, fun v z => nomatch z⟩
  keep := fun i h h' st k => let ⟨ok, ov, e⟩ := st; ⟨ok, ov, k it (by simp) _ e⟩
  item := by
    intro X hP hw hK hc i pins s σ H E I hf st hg
    subst hP hw hK
    obtain ⟨hd, hi⟩ := hg
    obtain ⟨hs, hgd, es', ep', hdt, hm, hsz, ent⟩ := frzT2 I hd
    obtain ⟨rfl, rfl⟩ := dict_ep hod hdt
    obtain ⟨⟨k, v⟩, hkv⟩ : ∃ p, kvs[i]? = some p := ⟨kvs[i], List.getElem?_eq_getElem hi⟩
    obtain ⟨hi', q, hkey, hq, ru⟩ := ent i k v hkv
    obtain ⟨ok, ov, he⟩ := st
    rw [← hsz] at he
    have hlt : it < s.heap.objs.size := Heap.lt_size he
    refine wpAny_pyNext_items_item_raw he hm hi' fun h' ho hT hz hk => ?_
    refine ⟨_, rfl, wpAny_letOwnedTupleGo_items (s := { s with heap := h' }) ho fun h'' he' sb => ?_⟩
    have hT2 : h''.get? s.heap.objs.size = some { cls := .type "tuple", data := .seq #[es'[i].key, es'[i].val] } := (sb.2 _ (Nat.ne_of_gt hlt)).trans hT
    have new : ObjOk X.prog X.w (upd H s.heap.objs.size (.tup [.ref q, v])) h'' s.heap.objs.size (.tup [.ref q, v]) :=
      ⟨by show 2 ≤ sizeLine; decide, [es'[i].key, es'[i].val], .cons (show RelV (.ref q) _ from hkey) (.cons ru .nil), ⟨_, hT2, rfl, _, rfl⟩⟩
    have I1 : Inv X pins σ (upd H s.heap.objs.size (.tup [.ref q, v])) { s with heap := h'' } :=
      I.turnedNew (t' := s.toks) (ch := [it]) (fun b ob hb e => (sb.2 b (by simpa using hb)).trans (hk b ob (by simpa using hb) e)) hf (Nat.le_refl _) new
    refine ⟨.ref s.heap.objs.size, _, I1, rfl, ⟨_, k, v, q, hkv, rfl, I.hok.fresh (Nat.le_refl _), hq, rfl⟩, ⟨es'[i].key, es'[i].val, ?_⟩, fun b hb => ?_⟩
    · rw [← hsz]; exact he'
    · have e : b = it := by simpa using hb
      rw [e, upd_ne (Nat.ne_of_lt hlt)]
      exact (hf it (by simp)).1
  done := by
    intro X hP hw hK hc i pins s σ H E I hf st hg
    subst hP hw hK
    obtain ⟨hd, hi⟩ := hg
    obtain ⟨f0, f1, f2, f3, f4, f5⟩ := hf it (by simp)
    obtain ⟨hs, hgd, es', ep', hdt, hm, hsz, ent⟩ := frzT2 I hd
    obtain ⟨rfl, rfl⟩ := dict_ep hod hdt
    obtain ⟨ok, ov, he⟩ := st
    rw [← hsz] at he
    exact wpAny_pyNext_items_end_raw (I.ok.hd hc) he hm (by omega) fun h' eb => ⟨rfl, I.turned (t' := s.toks) (fun b ob hb e => eb b ob hb e) f0 f1 f3 f4 f5⟩
  self := fun A i s Q E st h => let ⟨_, _, e⟩ := st; PySem.W.kcp_self e h
def tItemsT (td : TE) : TI := fun σ H R => td σ H fun x H1 => ∃ d o kvs, x = .ref d ∧ H1 d = some (.frz o (.dT kvs)) ∧ R (ItiT d o kvs) H1
theorem pi_itemsT {X : Cx} {e : Expr} {td : TE} {apos cpos : Pos} {elts : List Expr} {kk : Nat} {tpos : Pos} (he : PE X e td) (hbase : attributeBase e "items" X.env (eval e X.env) = eval e X.env := by rfl) (hline : (apos.endLine == cpos.line) = true := by rfl) :
    PI X (.Tuple elts kk tpos) (.Call (.Attribute e "items" apos) [] [] cpos) (tItemsT td) := by
  refine ⟨fun pins s σ H R I h => ?_⟩
  refine wpAny_Call_method (T := "dict") (id := "dict.items") hbase rfl hline F.plainAttrs_dict F.slot_dict_items F.type_dict_items (thn (he.run pins s σ H _ I h) fun u s1 ⟨x, H1, I1, rx, d, o, kvs, ex, hd, q⟩ => ?_)
  subst ex
  obtain rfl : u = Value.ref d := rx
  obtain ⟨hs, hgd, es, ep, hdt, hm, hsz, ent⟩ := frzT2 I1 hd
  obtain ⟨o', ho', hx', hd'⟩ := id hm
  refine ⟨⟨o', ho', hx'.1⟩, fun b e => by cases e; exact ⟨o', ho', hx'.2.1⟩, ?_⟩
  have I2 : Inv X pins σ H1 { s1 with heap := s1.heap.push { cls := .type "dict_items", data := .fields #[.ref d] } } := I1.kept (t' := s1.toks) fun b ob q => Heap.get?_push_of_some _ q
  have hm2 : (s1.heap.push { cls := .type "dict_items", data := .fields #[.ref d] }).DictRaw d es ep := ⟨o', Heap.get?_push_of_some _ ho', hx', hd'⟩
  have fin : wpAny (model X.prog X.w) X.A (pyIter (.ref s1.heap.objs.size)) (PIE X pins σ (.Tuple elts kk tpos) R) X.xe { s1 with heap := s1.heap.push { cls := .type "dict_items", data := .fields #[.ref d] } } := by
    refine wpAny_pyIter_items_raw (d := d) ⟨_, Heap.get?_push_size _ rfl, rfl, rfl⟩ hm2 (pi_one (tk := s1.toks) I2 _ (turn_itemsT _ hdt) ⟨.none, .none, ?_⟩ q)
    rw [← hsz]
    exact Heap.get?_push_size _ rfl
  show wpAny _ _ (callWith cpos (.builtin "dict.items") [.ref d] [] []) _ X.xe s1
  exact method_meetsIn F.slot_dict_items F.entry_dict_items rfl (PySem.evalArgs_none ⟨rfl, ⟨o', ho', hx'.1⟩, F.args_dict_items_1 _, _, meets_dict_items_raw d hs, ⟨es, ep, hm⟩, fin⟩)
end DW
namespace FW
open PySem PySem.Spec L2 DW
section
variable {K : PySem.W.Frag} {w : Option Dw} {G : Gd} {F F1 F2 F0 H H1 H2 : Hp} {X : Cx} {W : WX} {e : Expr} {fe : FE} {pos apos cpos tpos : Pos}
theorem walkKTI {d : Addr} {o : Obj} {ks : List (List Key)} {vs : List V} {ds : List D} (hl : ks.length = vs.length) (l : RepL K F0 vs ds) : DWalk K w (fun F H => Sub F0 F ∧ H d = some (.frz o (.dT (ks.zip vs)))) (ItiT d o (ks.zip vs)) (pairsD ((ks.map fun k => PyData.tuple (k.map keyD)).zip ds)) := by
  intro F H ⟨s0, h⟩ x0
  have e0 : (ks.zip vs).length = (pairsD ((ks.map fun k => PyData.tuple (k.map keyD)).zip ds)).length := by unfold pairsD; simp [List.length_zip, RepL.length l]
  refine ⟨fun i hi => ⟨h, by rw [e0]; exact hi⟩, ⟨h, Nat.le_of_eq e0⟩, fun i x H' dd e y => ?_⟩
  obtain ⟨T, k, v, q, ekv, rfl, hT, hq, rfl⟩ := y
  obtain ⟨e1, e2⟩ := List.getElem?_zip_eq_some.mp ekv
  obtain ⟨d2, e3, r⟩ := RepL.get' l e2
  have : (pairsD ((ks.map fun k => PyData.tuple (k.map keyD)).zip ds))[i]? = some (.tuple [.tuple (k.map keyD), d2]) := by
    unfold pairsD
    rw [List.getElem?_map]
    have : ((ks.map fun k => PyData.tuple (k.map keyD)).zip ds)[i]? = some (.tuple (k.map keyD), d2) := List.getElem?_zip_eq_some.mpr ⟨by rw [List.getElem?_map, e1]; rfl, e3⟩
    rw [this]; rfl
  rw [this] at e
  cases e
  obtain ⟨F2, x2, s2, e4⟩ := Ext.tupIn x0 hq
  have x1 := x2.trans (x2.stay.laid (u := .tup [.ref q, v]) hT)
  have s1 : Sub F2 (upd F2 T (.tup [.ref q, v])) := upd_grow (x2.le.none hT)
  exact ⟨_, x1, .tup upd_same (.cons (RepD.mono s1 (.tup e4 (keysD_rep k))) (.cons (RepD.mono (s0.trans (s2.trans s1)) r) .nil))⟩
def iItemsT (f : FE) : FI := fun δ => (f δ).bind fun r => match r with
  | .im (.dict m) => gd (!isDK m) (.ok (pairsD (dBody m)))
  | _ => .no
theorem i_itemsT {elts : List Expr} {kk : Nat} (he : E_ X G W e fe) (hbase : attributeBase e "items" X.env (eval e X.env) = eval e X.env := by rfl) (hline : (apos.endLine == cpos.line) = true := by rfl) : I_ X G W true (.Tuple elts kk tpos) (.Call (.Attribute e "items" apos) [] [] cpos) (iItemsT fe) := PI.imp (pi_itemsT he hbase hline) fun σ H R ⟨F, δ, P, PX, S, q, k, xk⟩ => by
  refine ⟨F, δ, _, PX, S, Tr.sat_bind.mp q, fun v F1 H1 r x1 q1 p1 => ?_, xk⟩
  split at p1
  · rename_i m
    obtain ⟨g1, p1⟩ := gd_sat p1
    cases q1 with
    | dicK h hl l =>
      rw [isDK_K] at g1
      cases g1
    | dicT h hl l =>
      rename_i a o ks vs ds dd
      have h' := x1.le _ _ h
      exact ⟨a, o, _, rfl, h', k _ (fun F H => Sub F1 F ∧ H a = some (.frz o (.dT (ks.zip vs))) ∧ F a = some (.frz o (.dT (ks.zip vs)))) F1 H1 _ x1 ⟨Sub.refl, h', h⟩ (fun F H c x0 => walkKTI hl l F H ⟨c.1, c.2.1⟩ x0) stFz (by rw [← dBody_T (ks := ks) (ds := ds)]; exact p1)⟩
  · exact p1.elim
end
end FW
set_option Elab.async false
set_option linter.all false
set_option maxRecDepth 100000
set_option maxHeartbeats 1000000
namespace FW
open PySem PySem.Spec L2 DW
/-! ### sorted(a tuple of whole numbers) -/
theorem dataLe_int (a b : Int) : PySem.W.dataLe false (fun i : Int => PyData.int i) a b = decide (a ≤ b) := by
  have h : PySem.W.dataLe false (fun i : Int => PyData.int i) a b = !PyProof.Rows.lexLt PyProof.Rows.itemOrd [Sum.inl b] [Sum.inl a] := by
    unfold PySem.W.dataLe PySem.W.sortLe
    simp [PySem.W.keyToks]
  rw [h]
  simp [PyProof.Rows.lexLt, PyProof.Rows.itemOrd, PyProof.Rows.itemLt]
  by_cases h : b < a
  · rw [decide_eq_true h, decide_eq_false (by omega)]; rfl
  · rw [decide_eq_false h, decide_eq_true (by omega)]; rfl
theorem sort_int (ns : List Int) : ns.mergeSort (PySem.W.dataLe false fun i : Int => PyData.int i) = sortI ns := by
  unfold sortI
  congr 1
  funext a b
  exact dataLe_int a b
theorem call_sortedT {prog : Program} {w : World} {A : Around} {E : Value → Shared → Prop} {s : Shared} {ns : List Int} {l : Addr} {o : Obj} {items : Array Value} {n : Nat} {Q : Value → Shared → Prop}
    (ho : s.heap.get? l = some o) (hc : o.cls = .type "tuple") (hd : o.data = .seq items n) (hr : Vals (ns.map V.int) items.toList) (hl : ns.length ≤ sizeLine) (hk : A.units + 2 < cLine)
    (q : ∀ (h0 h' : Heap) (p : Addr) (out : List Value) (c : Nat), (∀ b o, s.heap.get? b = some o → h0.get? b = some o) → (∀ b o, h0.get? b = some o → h'.get? b = some o) → h0.objs.size ≤ p → h'.get? p = some (PyProof.Rows.seqObj "list" out.toArray c) → Vals ((sortI ns).map V.int) out → Q (.ref p) { s with heap := h' }) :
    wpAny (model prog w) A (call (.builtin "sorted") [.ref l]) Q E s := by
  have ha := PyProof.Rows.args_sorted1 (.ref l)
  have hck : checkBuiltinCall "sorted" { pos := [.ref l] } = pure () := by
    unfold checkBuiltinCall
    rw [PyProof.Rows.kind_sorted]
    exact ha
  refine wpAny_call (codeAny_call_builtin PyProof.Rows.plain_sorted PyProof.Rows.entry_sorted ?_)
  rw [hck]
  refine wpAny_pure ?_
  have hz : items.toList.length = ns.length := by
    have := hr.length
    rw [List.length_map] at this
    exact this.symm
  have hsz : items.size ≤ sizeLine := by rw [← Array.length_toList, hz]; exact hl
  have each : ∀ (vs : List Value) (ns : List Int), Vals (ns.map V.int) vs → PySem.W.EachIs (fun v (b : Int) => RelV (.int b) v) vs ns := by
    intro vs ns
    induction ns generalizing vs with
    | nil => intro h; cases h; exact .nil
    | cons b r ih => intro h; cases h with
      | cons h t => exact .cons h (ih _ t)
  have back : ∀ (vs : List Value) (ns : List Int), PySem.W.EachIs (fun v (b : Int) => RelV (.int b) v) vs ns → Vals (ns.map V.int) vs := by
    intro vs ns h
    induction h with
    | nil => exact .nil
    | cons h t ih => exact .cons h ih
  have readE : ∀ (h : Heap) (a : Addr) (vs : List Value) (ns : List Int), PySem.W.EachIs (fun v (b : Int) => RelV (.int b) v) vs ns → PySem.W.EachIs (fun v (b : Int) => ∃ as, Reads h v (.int b) as ∧ ¬a ∈ as) vs ns := by
    intro h a vs ns e
    induction e with
    | nil => exact .nil
    | cons h t ih =>
      obtain ⟨tk, rfl⟩ := h
      exact .cons ⟨[], .int _ _, fun z => by cases z⟩ ih
  unfold Builtin.sorted
  refine wpAny_bind (wpAny_pure ?_)
  refine wpAny_bind (wpAny_collect_seq l (.inr rfl) ho hc hd (fun h' hb => ?_) hsz)
  refine wpAny_bind (wpAny_newList ?_ hsz)
  have hnew : (h'.push { cls := .type "list", data := .seq items.toList.toArray }).get? h'.objs.size = some (PyProof.Rows.seqObj "list" items.toList.toArray 0) := by
    rw [Heap.get?_push_size _ rfl]
  refine wpAny_bind (wpAny_holding (PySem.W.list_sort_data (R := fun v (b : Int) => RelV (.int b) v) (enc := fun i : Int => PyData.int i) (bs := ns) hnew (each _ _ hr) (readE _ _ _ _ (each _ _ hr)) ?_ ?_ hl (fun b hb => ?_) fun out e1 e2 => ?_))
  · intro d hd d' hd'
    obtain ⟨i, _, rfl⟩ := List.mem_map.mp hd
    obtain ⟨j, _, rfl⟩ := List.mem_map.mp hd'
    simp [PySem.W.alike]
  · refine .inr fun d hd => ?_
    obtain ⟨i, _, rfl⟩ := List.mem_map.mp hd
    exact ⟨(fun z => by cases z), fun xs z => by cases z⟩
  · have e1 : A.in1.units = A.units + 1 := rfl
    have e2 : PyData.depth (.int b) = 0 := by simp [PyData.depth]
    rw [e1, e2]
    exact hk
  · obtain ⟨c, hc2⟩ := PyProof.Rows.sortedHeap_at (out := out.toArray) hnew
    refine wpAny_pure ?_
    refine q h' _ _ out c hb (fun b o e => ?_) (Nat.le_refl _) hc2 (back _ _ (by rw [← sort_int]; exact e2))
    have hlt := Heap.lt_size e
    rw [PyProof.Rows.sortedHeap_old (Nat.ne_of_lt hlt) (by rw [Heap.size_push]; exact Nat.lt_succ_of_lt hlt)]
    exact Heap.get?_push_of_some _ e
/-- the rule -/
theorem cr_sortT2 {X : Cx} (hu64 : X.A.units + 64 < cLine) : CallR X (.builtin "sorted") (fun vs H Q => ∃ (a : Addr) (ns : List Int), vs = [V.ref a] ∧ SqT X.K H a (ns.map V.int) ∧ ∀ p, H p = none → Q (.ref p) (upd H p (.lst ((sortI ns).map V.int)))) := by
  intro pins s σ H vs us Q I r h
  obtain ⟨a, ns, rfl, hs, q⟩ := h
  rw [Vals.ref1 r]
  obtain ⟨its, rv, ⟨o, ho, hc, n, hd⟩, hz⟩ := I.tuple hs
  rw [List.length_map] at hz
  refine call_sortedT (ns := ns) ho hc hd rv hz (by omega) fun h0 h' p out c k0 k1 hp hg ho' => ?_
  have I0 : Inv X pins σ H { s with heap := h0 } := I.kept (t' := s.toks) k0
  have hlen : ((sortI ns).map V.int).length ≤ sizeLine := by
    rw [List.length_map]
    unfold sortI
    rw [List.length_mergeSort]
    exact hz
  exact ⟨.ref p, upd H p (.lst ((sortI ns).map V.int)), I0.laid (t' := s.toks) k1 hp ⟨hlen, out, c, ho', hg⟩, rfl, q p (I0.hok.fresh hp)⟩
section
variable {K : PySem.W.Frag} {w : Option Dw} {G : Gd} {F F1 F2 F0 H H1 H2 : Hp} {σ σ2 : L2.St} {δ δ2 : DEnv}
variable {X : Cx} {W : WX} {st : Bool} {tg iter e a b c o elt kx vx : Expr} {es rest : List Expr} {fe fa fb fc fo fk fv : FE} {ft fu : FT} {faa : FA} {pos p np p2 apos cpos : Pos} {s : Stmt}
def kSortTD : KC := fun rs P => ∃ r ds ns, rs = [r] ∧ r.tup = some ds ∧ ds = ns.map PyData.int ∧ P (.ol ((sortI ns).map .int))
theorem callD_sortTD : CallD K (fun vs H Q => ∃ (a : Addr) (ns : List Int), vs = [V.ref a] ∧ SqT K H a (ns.map V.int) ∧ ∀ p, H p = none → Q (.ref p) (upd H p (.lst ((sortI ns).map V.int)))) kSortTD := by
  rintro w H0 F H vs rs P Q x0 q ⟨r, ds, ns, rfl, e, rfl, p⟩ k
  cases q with
  | cons a t =>
    cases t
    obtain ⟨pp, us, rfl, h, l⟩ := RepR.tuple (K := K) (w := w) (H := H0) x0.le a e
    rw [RepL.isInts l] at h
    refine ⟨pp, ns, rfl, .inl (.inl (x0.le _ _ h)), fun q hq => ?_⟩
    obtain ⟨x1, r⟩ := new_list (K := K) x0 hq (intsV (sortI ns))
    exact k _ _ _ _ x1 r p
def gSortTD : G1 := fun rs => match rs with
  | [r] => match r.tup with
    | some ds => (ofO (intsOf ds)).bind fun ns => .ok (.ol ((sortI ns).map .int))
    | none => .no
  | _ => .no
theorem kcg_sortTD : KCG kSortTD gSortTD := by
  intro rs P PX h
  unfold gSortTD at h
  split at h
  · split at h
    · rename_i ds e
      obtain ⟨ns, e2, p⟩ := ofO_sat (Tr.sat_bind.mp h)
      exact ⟨_, ds, ns, rfl, e, intsOf_eq e2, p⟩
    · exact h.elim
  · exact h.elim
/-- (a, *t) -/
def fTupStar (fa fb : FE) : FE := fun δ => (fa δ).bind fun x => match x with
  | .im d => (fb δ).bind fun y => match y.tup with
    | some ds => gd (szOk (ds.length + 1)) (.ok (.im (.tuple (d :: ds))))
    | none => .no
  | _ => .no
theorem e_tupStar {k : Nat} (ha : E_ X G W a fa) (hb : E_ X G W b fb) (h1 : starEach [a, .Starred b p] X.env = (false, eval a X.env) :: starEach [.Starred b p] X.env := by rfl) (h2 : starEach [.Starred b p] X.env = (true, eval b X.env) :: starEach [] X.env := by rfl) : E_ X G W (.Tuple [a, .Starred b p] k pos) (fTupStar fa fb) :=
  PE.imp (pe_tup (pa_cons ha (StX.pa_star hb pa_nil h2) h1)) fun σ H Q ⟨F, δ, P, PX, S, q, k, xk⟩ => by
    refine ⟨F, δ, _, PX, S, Tr.sat_bind.mp q, fun x F1 H1 r1 x1 q1 p1 => ?_, xk⟩
    split at p1
    · rename_i d
      refine dT.next (we := wE X.K fb) S x1 xk (Tr.sat_bind.mp p1) fun y F2 H2 r2 x2 q2 p2 => ?_
      split at p2
      · rename_i ds e
        obtain ⟨g1, p2⟩ := gd_sat p2
        obtain ⟨b, us, rfl, hb, lb⟩ := RepR.tuple (K := X.K) (w := G.w) (H := H1) x2.le q2 e
        have l : RepL X.K F2 (x :: (us ++ [])) (d :: ds) := by
          rw [List.append_nil]
          exact .cons (RepD.mono x2.fs q1) lb
        refine ⟨b, us, rfl, .inl (.inl (.inl (x2.le _ _ hb))), ?_, fun pp hp => ?_⟩
        · rw [RepL.length l]; exact szOk_ok g1
        · obtain ⟨x3, r3⟩ := new_tup (K := X.K) (x1.trans x2).stay hp l
          exact k _ _ _ _ ((x1.trans x2).trans x3) (r3.back (x1.trans x2)) p2
      · exact p2.elim
    · exact p1.elim
/-- list(range(n)) -/
def fLstR1 (fa : FE) : FE := fun δ => (fa δ).bind fun r => match r with
  | .im (.int n) => gd (decide (0 ≤ n) && decide (n ≤ 16777216)) (.ok (.ol (intsD 0 n.toNat)))
  | _ => .no
theorem e_lstR1 (hc : X.calm = true) (hg : Gl X "list") (hm : X.mg "list" = none) (hg2 : Gl X "range") (hm2 : X.mg "range" = none) (ha : E_ X G W a fa) (na : starEach [a] X.env = (false, eval a X.env) :: starEach [] X.env := by rfl)
    (nb : starEach [.Call (.Name "range" apos) [a] [] cpos] X.env = (false, eval (.Call (.Name "range" apos) [a] [] cpos) X.env) :: starEach [] X.env := by rfl) : E_ X G W (.Call (.Name "list" p) [.Call (.Name "range" apos) [a] [] cpos] [] pos) (fLstR1 fa) :=
  PE.imp (pe_listRg hc hg hm (prg_1 hg2 hm2 ha na) nb) fun σ H Q ⟨F, δ, P, PX, S, q, k, xk⟩ => by
    refine ⟨F, δ, _, PX, S, Tr.sat_bind.mp q, fun v F1 H1 r x1 q1 p1 => ?_, xk⟩
    split at p1
    · rename_i n
      obtain ⟨h1, p1⟩ := gd_sat p1
      rw [Bool.and_eq_true] at h1
      cases q1
      refine ⟨n, rfl, RgOk.of_le (by decide) (of_decide_eq_true h1.2) (by decide) (of_decide_eq_true h1.1), fun t ht => ?_⟩
      have l : RepL X.K F1 (rgV 0 n) (intsD 0 n.toNat) := by
        unfold rgV
        rw [Int.sub_zero]
        exact RepL.rg
      obtain ⟨x2, r2⟩ := new_list (K := X.K) x1.stay ht l
      exact k _ _ _ _ (x1.trans x2) (r2.back x1) p1
    · exact p1.elim
/-- xs.append(ys.pop(k)) -/
def sAppPopF (i j : Nat) (f : FE) : FS := fun δ => match slotD δ i, slotD δ j with
  | some (.ol xs), some (.ol ys) => (f δ).bind fun r => match r with
    | .im (.int n) => gd (decide (0 ≤ n) && decide (n.toNat < 16777216) && decide (xs.length < 16777216) && decide (i ≠ j)) ((ofO ys[n.toNat]?).bind fun d => .ok (.nx ((δ.set j (some (.ol (ys.eraseIdx n.toNat)))).set i (some (.ol (xs ++ [d]))))))
    | _ => .no
  | _, _ => .no
theorem s_appPop {i j : Nat} (h : PS X s (tDrop (tBM X.K "list" rAppend (tVar i) (tCons (tBM X.K "list" rPopAt (tVar j) (tCons (dT X.K G W (wE X.K fk)) tNil)) tNil)))) : S_ X G W s (sAppPopF i j fk) := PS.imp h fun D σ H ⟨F, δ, E, S, q, k⟩ => by
  unfold wS sAppPopF at q
  split at q
  · rename_i xs ys e0 e0'
    have e0 := slotD_eq e0
    have e0' := slotD_eq e0'
    obtain ⟨v0, e1, pp, vs, rfl, hp, nf, nd, l⟩ := S.slot i _ e0
    obtain ⟨v0', e1', pp', vs', rfl, hp', nf', nd', l'⟩ := S.slot j _ e0'
    refine ⟨_, e1, .inl ⟨rfl, vs, SqL.of hp⟩, _, e1', .inl ⟨rfl, vs', SqL.of hp'⟩, F, δ, _, _, S, Tr.sat_bind.mp q, fun v F1 H1 r x1 q1 p1 => ?_, k.xok S⟩
    split at p1
    · rename_i n
      obtain ⟨g1, p1⟩ := gd_sat p1
      obtain ⟨d, ed, p1⟩ := ofO_sat (Tr.sat_bind.mp p1)
      simp only [Bool.and_eq_true, decide_eq_true_eq] at g1
      obtain ⟨⟨⟨g1, g2⟩, g3⟩, g4⟩ := g1
      cases q1
      obtain ⟨h', n'⟩ := x1.keepN hp nf nd
      obtain ⟨h'', n''⟩ := x1.keepN hp' nf' nd'
      obtain ⟨v, ev, rd⟩ := RepL.get l' ed
      have hne : pp ≠ pp' := fun z => S.apart i j _ _ pp g4 e0 e0' rfl rfl e1 (by rw [z]; exact e1')
      have hn : n.toNat < vs'.length := (List.getElem?_eq_some_iff.mp ev).1
      have S1 := (S.to x1).mut (s1 := .ol (ys.eraseIdx n.toNat)) e0' rfl e1' ⟨_, rfl, RepL.eraseIdx n.toNat (RepL.mono x1.fs l')⟩
      refine ⟨pp', vs', n, n.toNat, v, rfl, rfl, h'', by omega, by omega, ?_, ev, pp, vs, v, rfl, rfl, by rw [upd_ne hne]; exact h', by rw [RepL.length l, sizeLine_eq]; exact g3, ?_⟩
      · have g5 : ¬ n < 0 := by omega
        simp only [seqIndex?, if_neg g5]
        rw [decide_eq_true g1, decide_eq_true (by omega)]
        rfl
      · have e3 : (δ.set j (some (.ol (ys.eraseIdx n.toNat))))[i]? = some (some (.ol xs)) := by rw [List.getElem?_set_ne (Ne.symm g4)]; exact e0
        exact k.nx σ F1 _ _ x1.fs (S1.mut (s1 := .ol (xs ++ [d])) e3 rfl e1 ⟨_, rfl, RepL.append (RepL.mono x1.fs l) (.cons (RepD.mono x1.fs rd) .nil)⟩) p1
    · exact p1.elim
  · exact q.elim
end
end FW
set_option Elab.async false
set_option linter.all false
set_option maxRecDepth 100000
set_option maxHeartbeats 4000000
namespace DW
open PySem PySem.Spec PyProof.Rows L2
/-! ### set(ns), whole numbers -/
section
variable {P0 : Program} {w : World} {A : Around} {R : Result → Shared → Prop} {I : Addr} {fp wr : List Addr} {G : Array GenState → Array GenState → Prop} {n : Nat} {Pv : Nat → Value → Prop} {St : Nat → Shared → Prop}
/-- the members behind i turns -/
abbrev memI (ns : List Int) (i : Nat) : Int → Bool := fun k => decide (k ∈ ns.take i)
theorem loopI (Wk : WalksS P0 w A.in1 I fp wr G n Pv St) (S : Addr) (off : S ∉ fp) (ns : List Int) (hn : n = ns.length) (hn64 : ns.length < 64) (hval : ∀ i v, Pv i v → ∃ k t, ns[i]? = some k ∧ v = .int k t) : ∀ (k i : Nat) (s : Shared), n - i = k → i ≤ n → St i s → (∃ c, SetR w s.heap S (memI ns i) c ∧ c ≤ i) →
      (∀ t, Moved (S :: wr) G s t → (∃ c, SetR w t.heap S (memI ns ns.length) c ∧ c ≤ ns.length) → R (.ok (.ret .none)) t) → codeAny (model P0 w) A (.builtin "set.update.loop" ⟨[.ref S, .ref I], []⟩) R s := by
  have offw : S ∉ wr := fun h => off (Wk.sub _ h)
  have more : ∀ c ∈ wr, c ∈ S :: wr := fun c hc => List.mem_cons_of_mem _ hc
  intro k
  induction k with
  | zero =>
    intro i s hk hi hst hS hR
    obtain rfl : i = n := by omega
    refine codeAny_builtin PyProof.Rows.F.entry_set_update_loop ?_
    rw [Around.under_plainId PyProof.Rows.F.plain_set_update_loop _]
    refine (show wpAny _ A.in1 (pyNext (.ref I) >>= _) _ _ s from wpAny_bind (Wk.done s _ _ hst fun t hm => ?_))
    refine (show wpAny _ A.in1 (ret Value.none) _ _ t from wpAny_pure (hR t (hm.mono more) ?_))
    obtain ⟨c, ⟨o, es, ep, tb, ho, more2⟩, hc⟩ := hS
    rw [hn] at more2 hc
    exact ⟨c, ⟨o, es, ep, tb, hm.heap S _ offw ho, more2⟩, hc⟩
  | succ k ih =>
    intro i s hk hi hst hS hR
    have lt : i < n := by omega
    refine codeAny_builtin PyProof.Rows.F.entry_set_update_loop ?_
    rw [Around.under_plainId PyProof.Rows.F.plain_set_update_loop _]
    refine (show wpAny _ A.in1 (pyNext (.ref I) >>= _) _ _ s from wpAny_bind (Wk.item i s _ _ lt hst fun v t hP ht hm => ?_))
    obtain ⟨b, tk, hb, rfl⟩ := hval i v hP
    obtain ⟨c, hS0, hc⟩ := hS
    have hS1 : SetR w t.heap S (memI ns i) c := by
      obtain ⟨o, es, ep, tb, ho, more2⟩ := hS0
      exact ⟨o, es, ep, tb, hm.heap S _ offw ho, more2⟩
    refine (show wpAny _ A.in1 (holding [Value.int b tk] (setAdd S (.int b tk)) >>= _) _ _ t from wpAny_bind (wpAny_holding ?_))
    unfold setAdd
    refine wpAny_holding (wpAny_bind ((intKind P0 w).pyHash (k := b) (by simp [PySem.intKind, Value.isInt]) ?_))
    refine setR_add_hashed (s := { t with toks := t.toks + 1 }) hS1 (by unfold scanBound; omega) fun h' sb hS2 => ?_
    have hS3 : ∃ c, SetR w h' S (memI ns (i + 1)) c ∧ c ≤ i + 1 := by
      refine ⟨_, SetR.congr hS2 fun k' => ?_, by split <;> omega⟩
      show decide (k' ∈ ns.take (i + 1)) = (decide (k' ∈ ns.take i) || decide (k' = b))
      rw [List.take_succ, hb]
      simp
    refine wpAny_pure ⟨plainId_quiet PyProof.Rows.F.plain_set_update_loop _, ih (i + 1) _ (by omega) lt (Wk.frame _ t _ _ ht (Nat.le_succ _) fun c hc o e => ?_) hS3 fun u hm2 hS4 => ?_⟩
    · exact (sb.2 c (fun z : c = S => off (z ▸ hc))).trans e
    · refine hR u (Moved.trans Wk.gtrans ((hm.mono more).then_heap (Nat.le_succ _) fun c o hc e => ?_) hm2) hS4
      exact (sb.2 c (fun z : c = S => hc (z ▸ List.mem_cons_self))).trans e
end
section
variable {P0 : Program} {w : World} {A : Around} {E : Value → Shared → Prop} {s : Shared}
set_option maxHeartbeats 3200000 in
theorem set_ofI {l : Addr} {us : Array Value} {ns : List Int} {Q : Value → Shared → Prop} (hh : A.handled = none) (hl : s.heap.IsList l us) (hus : us.size = ns.length) (hns : ns.length < 64) (hall : ∀ (i : Nat) (v : Value), us[i]? = some v → ∃ k t, ns[i]? = some k ∧ v = .int k t)
    (hQ : ∀ (h' : Heap) (tk n : Nat), SetR w h' s.heap.objs.size (memI ns ns.length) n → n ≤ ns.length → (∀ c o, c < s.heap.objs.size → s.heap.get? c = some o → h'.get? c = some o) → Q (.ref s.heap.objs.size) { s with heap := h', toks := tk }) : wpAny (model P0 w) A (call (.type "set") [.ref l]) Q E s := by
  have f1 := PySem.F.called_set.notType; have f2 := PySem.F.called_set.canCreate; have f3 := PySem.F.typeCall_set_1 (.ref l); have f4 := PySem.F.called_set.made; have f5 := PySem.F.called_set.sub
  obtain ⟨c, tl, hmro⟩ := PySem.F.called_set.mro
  refine (wpAny_call (codeAny_of_tree (show wpAny _ _ (callAny (.type "set") _) _ _ _ from wpAny_pure ⟨Code.quiet_builtin _ (by decide +kernel), codeAny_builtin PySem.F.entry_type_call ?_⟩)))
  rw [Around.under_plain (weight_type_call_type "set" [.ref l] []) rfl]
  repeat (any_goals first | assumption | wp_step)
  refine codeAny_mono (code_set_led1 (.ref l) (E := E) (Q₁ := fun z t => z = .ref s.heap.objs.size ∧ t = { s with heap := s.heap.push { cls := .type "set", dict := none, data := .set #[] 0 (.fresh 0 0 (!w.params.followText "set-order")) } }) ⟨rfl, rfl⟩) fun r t hr => ?_
  cases r with
  | error e => exact hr
  | ok fl =>
    cases fl with
    | ret z =>
      obtain ⟨rfl, rfl⟩ := hr
      have gS : (s.heap.push { cls := .type "set", dict := none, data := .set #[] 0 (.fresh 0 0 (!w.params.followText "set-order")) }).get? s.heap.objs.size = some { cls := .type "set", dict := none, data := .set #[] 0 (.fresh 0 0 (!w.params.followText "set-order")) } := (Heap.get?_push_size _ rfl)
      have tS : Shared.TypeIs { s with heap := s.heap.push { cls := .type "set", dict := none, data := .set #[] 0 (.fresh 0 0 (!w.params.followText "set-order")) } } (.ref s.heap.objs.size) "set" := (⟨_, gS, rfl⟩)
      have b1 := PySem.F.called_set.init.lookup; have b2 := PySem.F.called_set.init.bind (.ref s.heap.objs.size)
      repeat (any_goals first | assumption | wp_step)
      refine codeAny_mono (codeAny_call_builtin (R := wants (fun r t => r = .none ∧ ∃ h' tk, t = { s with heap := h', toks := tk } ∧ (∃ n, SetR w h' s.heap.objs.size (memI ns ns.length) n ∧ n ≤ ns.length) ∧ (∀ c o, c < s.heap.objs.size → s.heap.get? c = some o → h'.get? c = some o)) E) PySem.F.called_set.init.plain PySem.F.entry_set_init (check_set_init_1 tS ?_)) fun r2 t2 hr2 => ?_
      · obtain ⟨⟨k1, k2, k3, k4⟩, hol, hcl, nl, hdl⟩ := hl
        simp only at hcl hdl
        subst hcl; subst hdl
        have hol2 : (s.heap.push { cls := .type "set", dict := none, data := .set #[] 0 (.fresh 0 0 (!w.params.followText "set-order")) }).get? l = some { cls := .type "list", dict := k2, data := .seq us nl, slots := k4 } := Heap.get?_push_of_some _ hol
        have n1 := PySem.F.sub_list_set; have n2 := PySem.F.sub_list_frozenset
        have n3 : (Value.type "list" == Value.type "dict") = false := by decide
        have hl1 : (s.heap.push { cls := .type "set", dict := none, data := .set #[] 0 (.fresh 0 0 (!w.params.followText "set-order")) }).IsList l us := ⟨_, hol2, rfl, nl, rfl⟩
        unfold Builtin.«set.__init__» noKeywords Builtin.Frozenset.updateFrom
        generalize ePI : pyIter = PI
        wp_walk
        subst ePI
        refine wpAny_pyIter_list hl1 ?_; refine wpAny_bind (wpAny_runValue ?_)
        have lS : l < s.heap.objs.size := Heap.lt_size hol
        have hnone : A.in1.in1.in1.handled = none := by simp [hh]
        have ne1 : l ≠ (s.heap.push { cls := .type "set", dict := none, data := .set #[] 0 (.fresh 0 0 (!w.params.followText "set-order")) }).objs.size := by rw [Heap.size_push]; exact Nat.ne_of_lt (Nat.lt_succ_of_lt lS)
        have off : s.heap.objs.size ∉ [(s.heap.push { cls := .type "set", dict := none, data := .set #[] 0 (.fresh 0 0 (!w.params.followText "set-order")) }).objs.size, l] := by
          rw [Heap.size_push]
          intro hm
          rcases List.mem_cons.mp hm with z | z
          · exact absurd z (Nat.ne_of_lt (Nat.lt_succ_self _))
          · exact absurd (List.mem_singleton.mp z) (Nat.ne_of_gt lS)
        refine loopI ((Walks.list hnone _ l ne1 us).toS) s.heap.objs.size off ns hus hns (fun i v hv => hall i v hv) (us.size - 0) 0 _ (by omega) (Nat.zero_le _) ⟨⟨_, Heap.get?_push_size _ rfl, rfl, rfl⟩, (hl1.push _)⟩ ?start ?fin
        case start =>
          obtain ⟨o, es, ep, tb, ho, more2⟩ := setR_fresh (h := s.heap) w
          exact ⟨0, SetR.congr ⟨o, es, ep, tb, Heap.get?_push_of_some _ ho, more2⟩ (fun k => by simp [memI]), Nat.zero_le _⟩
        case fin =>
          rintro ⟨h', g', d', tk', os'⟩ hm hS'
          obtain rfl : g' = s.gens := hm.gens
          obtain rfl : d' = s.drawn := hm.drawn
          obtain rfl : os' = s.os := hm.os
          refine (show wpAny _ _ _ _ _ _ from wpAny_pure (show wpAny _ _ (ret Value.none) _ _ _ from wpAny_pure ⟨rfl, h', tk', rfl, hS', fun c o hc e => ?_⟩))
          refine hm.heap c o (fun hm2 => ?_) (Heap.get?_push_of_some _ (Heap.get?_push_of_some _ e))
          rcases List.mem_cons.mp hm2 with z | z
          · exact absurd z (Nat.ne_of_lt hc)
          · have := List.mem_singleton.mp z
            rw [Heap.size_push] at this
            exact absurd this (Nat.ne_of_lt (Nat.lt_succ_of_lt hc))
      · cases r2 with
        | error e => exact hr2
        | ok fl2 =>
          cases fl2 with
          | ret r =>
            obtain ⟨rfl, h', tk, rfl, hS', hk'⟩ := hr2
            repeat (any_goals first | assumption | wp_step)
            obtain ⟨n, hS', hn⟩ := hS'
            exact hQ _ _ n hS' hn hk'
          | _ => exact hr2.elim
    | _ => exact hr.elim
end
end DW
set_option Elab.async false
set_option linter.all false
set_option maxRecDepth 100000
set_option maxHeartbeats 4000000
namespace DW
open PySem PySem.Spec PyProof.Rows L2
section
variable {X : Cx} {a : Expr} {ta : TE} {p p2 q pos : Pos}
theorem vals_int : ∀ {ns : List Int} {its : List Value}, Vals (ns.map V.int) its → ∀ (i : Nat) (v : Value), its[i]? = some v → ∃ k t, ns[i]? = some k ∧ v = .int k t
  | [], _, h, i, v, e => by cases h; simp at e
  | n :: r, _, h, i, v, e => by
    rw [List.map_cons] at h
    cases h with
    | cons h t =>
      cases i with
      | zero =>
        simp at e
        subst e
        obtain ⟨tk, e2⟩ := h
        exact ⟨n, tk, rfl, e2⟩
      | succ i => exact vals_int t i v (by simpa using e)
theorem pe_sortSetI (hc : X.calm = true) (hg : Gl X "sorted") (hm : X.mg "sorted" = none) (hg2 : Gl X "set") (hm2 : X.mg "set" = none) (ha : PE X a ta) (na : starEach [a] X.env = (false, eval a X.env) :: starEach [] X.env := by rfl) :
    PE X (.Call (.Name "sorted" p) [.Call (.Name "set" p2) [a] [] q] [] pos) (fun σ H Q => ta σ H fun x H1 => ∃ (l : Addr) (ns : List Int), x = .ref l ∧ SqL X.K H1 l (ns.map V.int) ∧ ns.length < 64 ∧
      ∀ a' u, H1 a' = none → ∀ (ys : List Int) (p' : Addr), ys.Pairwise (· < ·) → (∀ k, k ∈ ys ↔ k ∈ ns) → (upd H1 a' u) p' = none → Q (.ref p') (upd (upd H1 a' u) p' (.lst (ys.map V.int)))) := ⟨fun pins s σ H Q I h => by
  refine Call_ (ld_blt I hg hm boot_sorted (callWith_builtin1 (args_cons ?_ rfl) rfl rfl))
  refine Call_ (ld_blt I hg2 hm2 boot_set (callWith_type1 (args_cons (thn (ha.run pins s σ H _ I h) fun v s1 ⟨x, H1, I1, r1, l, ns, ex, hq, hn, q1⟩ => args_nil ?_) na) na rfl))
  subst ex
  cases r1
  obtain ⟨its, r, pl, hz⟩ := I1.list hq
  have hsz : its.toArray.size = ns.length := by rw [List.size_toArray, ← r.length, List.length_map]
  refine set_ofI (I1.ok.hd hc) pl.isList (ns := ns) hsz hn (fun i v hv => vals_int r i v (by simpa using hv)) fun h' tk n hS hle hk => args_nil ?_
  have hn1 : H1 s1.heap.objs.size = none := I1.hok.fresh (Nat.le_refl _)
  have I2 : Inv X pins σ (upd H1 s1.heap.objs.size (SetO X.w s1.heap.objs.size (memI ns ns.length) n)) { s1 with heap := h', toks := tk } :=
    I1.laid (t' := tk) (fun c o e => hk c o (Heap.lt_size e) e) (Nat.le_refl _) (setO_new hS)
  refine cr_sortedSet hc pins _ σ _ [.ref s1.heap.objs.size] _ _ I2 (.cons rfl .nil) ⟨s1.heap.objs.size, memI ns ns.length, n, rfl, upd_same, by omega, fun ys p' h1 h2 h3 h4 => q1 _ _ hn1 ys p' h1 (fun k => (h2 k).trans ?_) h4⟩
  show decide (k ∈ ns.take ns.length) = true ↔ _
  rw [List.take_length, decide_eq_true_iff]⟩
end
end DW
namespace FW
open PySem PySem.Spec L2 DW
section
variable {K : PySem.W.Frag} {w : Option Dw} {G : Gd} {F F1 F2 F0 H H1 H2 : Hp} {σ σ2 : L2.St} {δ δ2 : DEnv}
variable {X : Cx} {W : WX} {st : Bool} {a : Expr} {fa : FE} {pos p p2 q : Pos}
/-- the members of a list of whole numbers, rising -/
def setI (ns : List Int) : List Int := sortI ns.eraseDups
theorem sortI_perm (ns : List Int) : (sortI ns).Perm ns := List.mergeSort_perm _ _
theorem sortI_pw (ns : List Int) : (sortI ns).Pairwise (· ≤ ·) := by
  have := List.pairwise_mergeSort (le := fun a b : Int => decide (a ≤ b)) (fun a b c h1 h2 => by
    have h1 := of_decide_eq_true h1
    have h2 := of_decide_eq_true h2
    exact decide_eq_true (Int.le_trans h1 h2)) (fun a b => by
    rw [Bool.or_eq_true]
    exact (Int.le_total a b).imp decide_eq_true decide_eq_true) ns
  exact this.imp fun h => of_decide_eq_true h
theorem nodup_erase : ∀ (n : Nat) (l : List Int), l.length = n → l.eraseDups.Nodup := by
  intro n
  induction n using Nat.strongRecOn with
  | ind n ih =>
    intro l hl
    cases l with
    | nil => simp
    | cons x r =>
      rw [List.eraseDups_cons]
      refine List.nodup_cons.mpr ⟨fun h => ?_, ih (r.filter fun b => !b == x).length ?_ _ rfl⟩
      · have := (List.mem_eraseDups).mp h
        rw [List.mem_filter] at this
        simp at this
      · have := List.length_filter_le (fun b => !b == x) r
        rw [List.length_cons] at hl
        omega
theorem setI_eq {ys ns : List Int} (h1 : ys.Pairwise (· < ·)) (h2 : ∀ k, k ∈ ys ↔ k ∈ ns) : ys = setI ns := by
  have hnd : (setI ns).Nodup := (sortI_perm _).nodup_iff.mpr (nodup_erase _ _ rfl)
  have hm : ∀ k, k ∈ setI ns ↔ k ∈ ns := fun k => ((sortI_perm _).mem_iff).trans List.mem_eraseDups
  have hp : ys.Perm (setI ns) := by
    refine (List.perm_ext_iff_of_nodup ?_ hnd).mpr fun k => (h2 k).trans (hm k).symm
    exact h1.imp fun h => Int.ne_of_lt h
  exact List.Perm.eq_of_pairwise (le := (· ≤ ·)) (fun a b _ _ h1 h2 => Int.le_antisymm h1 h2) (h1.imp fun h => Int.le_of_lt h) (sortI_pw _) hp
/-- sorted(set(ns)) -/
def fSortSetI (fa : FE) : FE := fun δ => (fa δ).bind fun r => match r.lst with
  | some ds => (ofO (intsOf ds)).bind fun ns => gd (decide (ns.length < 64)) (.ok (.ol ((setI ns).map .int)))
  | none => .no
theorem e_sortSetI (hc : X.calm = true) (hg : Gl X "sorted") (hm : X.mg "sorted" = none) (hg2 : Gl X "set") (hm2 : X.mg "set" = none) (ha : E_ X G W a fa) (na : starEach [a] X.env = (false, eval a X.env) :: starEach [] X.env := by rfl) :
    E_ X G W (.Call (.Name "sorted" p) [.Call (.Name "set" p2) [a] [] q] [] pos) (fSortSetI fa) :=
  PE.imp (pe_sortSetI hc hg hm hg2 hm2 ha na) fun σ H Q ⟨F, δ, P, PX, S, q, k, xk⟩ => by
    refine ⟨F, δ, _, PX, S, Tr.sat_bind.mp q, fun v F1 H1 r x1 q1 p1 => ?_, xk⟩
    split at p1
    · rename_i ds e
      obtain ⟨ns, en, p1⟩ := ofO_sat (Tr.sat_bind.mp p1)
      obtain ⟨h1, p1⟩ := gd_sat p1
      obtain ⟨l, us, rfl, hb, lb⟩ := q1.list x1.le e
      rw [intsOf_eq en] at lb
      rw [RepL.isInts lb] at hb
      refine ⟨l, ns, rfl, hb, of_decide_eq_true h1, fun a' u ha' ys p' h2 h3 hp => ?_⟩
      obtain rfl := setI_eq h2 h3
      have x2 : Ext G.w F1 H1 F1 (upd H1 a' u) := x1.stay.own ha'
      obtain ⟨x3, r3⟩ := new_list (K := X.K) x2.stay hp (intsV (setI ns))
      exact k _ _ _ _ (x1.trans (x2.trans x3)) (r3.back (x1.trans x2)) p1
    · exact p1.elim
end
end FW
set_option Elab.async false
set_option linter.all false
set_option maxRecDepth 100000
set_option maxHeartbeats 4000000
/-! x is True -/
namespace FW
open PySem PySem.Spec L2 DW
def kIsB (neg : Bool) : KO := fun r1 r2 P => ∃ a b : Bool, r1 = .im (.bool a) ∧ r2 = .im (.bool b) ∧ P (.im (.bool (if neg then !decide (a = b) else decide (a = b))))
section
variable {K : PySem.W.Frag} {X : Cx} {G : Gd} {W : WX} {a b : Expr} {fa fb : FE} {pos : Pos}
theorem opd_isB : OpD K (fun x y H Q => ∃ a b : Bool, x = .bl a ∧ y = .bl b ∧ Q (.bl (decide (a = b))) H) (kIsB false) := by
  rintro w H0 F H x y r1 r2 P Q x0 q1 q2 ⟨a, b, rfl, rfl, p⟩ k
  cases q1
  cases q2
  exact ⟨a, b, rfl, rfl, k _ F H (.im _) x0 (.bl _) p⟩
theorem opd_notB : OpD K (fun x y H Q => ∃ a b : Bool, x = .bl a ∧ y = .bl b ∧ Q (.bl (!decide (a = b))) H) (kIsB true) := by
  rintro w H0 F H x y r1 r2 P Q x0 q1 q2 ⟨a, b, rfl, rfl, p⟩ k
  cases q1
  cases q2
  exact ⟨a, b, rfl, rfl, k _ F H (.im _) x0 (.bl _) p⟩
def gIsB (neg : Bool) : G2 := fun x y => match x, y with
  | .im (.bool a), .im (.bool b) => .ok (.im (.bool (if neg then !decide (a = b) else decide (a = b))))
  | _, _ => .no
theorem kg_isB {neg : Bool} : KG (kIsB neg) (gIsB neg) := by
  intro a b P PX h
  unfold gIsB at h
  split at h
  · exact ⟨_, _, rfl, rfl, h⟩
  · exact h.elim
theorem e_isB (ha : E_ X G W a fa) (hb : E_ X G W b fb) : E_ X G W (.Compare a [.Is] [b] pos) (fOp (gIsB false) fa fb) := e_op (de_cmp op_isBl opd_isB ha hb (nb _ (by decide) (by decide))) kg_isB
theorem e_notB (ha : E_ X G W a fa) (hb : E_ X G W b fb) : E_ X G W (.Compare a [.IsNot] [b] pos) (fOp (gIsB true) fa fb) := e_op (de_cmp op_notBl opd_notB ha hb (nb _ (by decide) (by decide))) kg_isB
theorem t_isB (ha : E_ X G W a fa) (hb : E_ X G W b fb) : T_ X G W (.Compare a [.Is] [b] pos) (tB (fOp (gIsB false) fa fb)) := t_op (dt_cmp op_isBl opd_isB ha hb (nb _ (by decide) (by decide))) kg_isB
theorem t_notB (ha : E_ X G W a fa) (hb : E_ X G W b fb) : T_ X G W (.Compare a [.IsNot] [b] pos) (tB (fOp (gIsB true) fa fb)) := t_op (dt_cmp op_notBl opd_notB ha hb (nb _ (by decide) (by decide))) kg_isB
end
end FW
set_option Elab.async false
set_option linter.all false
set_option maxRecDepth 100000
set_option maxHeartbeats 4000000
/-! plain lemmas shared by the laws of machines -/
namespace MK
open PySem PySem.Spec L2 DW FW
abbrev En := Nat × List Nat
def encI (i : Nat) : D := .int (i : Nat)
def encT (t : List (List Nat)) : D := .tuple (t.map fun r => .tuple (r.map encI))
structure Mc where
  K : Nat
  tab : List (List Nat)
  acc : List Nat
def Mc.al (M : Mc) : Str := tx (List.range M.K)
def Mc.enc (M : Mc) : D := .tuple [.str M.al, encT M.tab, .tuple (M.acc.map encI)]
def Mc.st (M : Mc) (s i : Nat) : Nat := (M.tab.getD s []).getD i 0
def Mc.run (M : Mc) (s : Nat) (l : List Nat) : Nat := l.foldl M.st s
structure Mc.Ok (M : Mc) (B : Nat) : Prop where
  k : M.K = 1 ∨ M.K = 2 ∨ M.K = 3
  n0 : 0 < M.tab.length
  n1 : M.tab.length ≤ B
  row : ∀ r ∈ M.tab, r.length = M.K ∧ ∀ p ∈ r, p < M.tab.length
section
variable {M : Mc} {B s i n : Nat} {l : List Nat}
theorem Mc.Ok.cell (h : M.Ok B) (hs : s < M.tab.length) (hi : i < M.K) : ∃ r, M.tab[s]? = some r ∧ r[i]? = some (M.st s i) ∧ M.st s i < M.tab.length := by
  have e := List.getElem?_eq_getElem hs
  obtain ⟨h1, h2⟩ := h.row _ (List.getElem_mem hs)
  have hi' : i < (M.tab[s]).length := by rw [h1]; exact hi
  have ea : M.st s i = (M.tab[s])[i] := by unfold Mc.st; simp [List.getD, e, hi']
  refine ⟨_, e, by rw [ea]; exact List.getElem?_eq_getElem hi', ?_⟩
  rw [ea]
  exact h2 _ (List.getElem_mem hi')
theorem Mc.run_lt (h : M.Ok B) : ∀ (l : List Nat) (s : Nat), s < M.tab.length → (∀ i ∈ l, i < M.K) → M.run s l < M.tab.length
  | [], s, hs, _ => hs
  | i :: r, s, hs, hl => by
    obtain ⟨_, _, _, h1⟩ := h.cell hs (hl i (List.mem_cons_self ..))
    exact Mc.run_lt h r _ h1 fun j hj => hl j (List.mem_cons_of_mem _ hj)
theorem Mc.run_snoc : M.run s (l ++ [i]) = M.st (M.run s l) i := by unfold Mc.run; rw [List.foldl_append]; rfl
theorem Mc.run_app {a b : List Nat} : M.run s (a ++ b) = M.run (M.run s a) b := by unfold Mc.run; rw [List.foldl_append]
theorem sidx {K : Nat} (hk : K = 1 ∨ K = 2 ∨ K = 3) (hi : i < K) : gSIdx (.im (.str (tx (List.range K)))) [.im (.str (tx [i]))] = .ok (.im (.int (i : Nat))) := by
  rcases hk with rfl | rfl | rfl
  · have : i = 0 := by omega
    subst this; rfl
  · have : i = 0 ∨ i = 1 := by omega
    rcases this with rfl | rfl <;> rfl
  · have : i = 0 ∨ i = 1 ∨ i = 2 := by omega
    rcases this with rfl | rfl | rfl <;> rfl
theorem rowsAt {t : List (List Nat)} {r : List Nat} (h : t[s]? = some r) : gIx (.im (encT t)) (.im (.int (s : Nat))) = .ok (.im (.tuple (r.map encI))) := ix_tup (by rw [List.getElem?_map, h]; rfl)
theorem cellAt {r : List Nat} {p : Nat} (h : r[i]? = some p) : gIx (.im (.tuple (r.map encI))) (.im (.int (i : Nat))) = .ok (.im (.int (p : Nat))) := ix_tup (by rw [List.getElem?_map, h]; rfl)
theorem take_succ {l : List Nat} (h : l[i]? = some n) : l.take (i + 1) = l.take i ++ [n] := by rw [List.take_succ, h]; rfl
theorem sgAt {d : D} (h : (signs (tx l))[i]? = some d) : ∃ c, l[i]? = some c ∧ d = .str (tx [c]) := by
  rw [signs_tx, List.getElem?_map] at h
  cases e : l[i]? with
  | none => rw [e] at h; cases h
  | some c => rw [e] at h; exact ⟨c, rfl, (Option.some.inj h).symm⟩
theorem step_ok {δ : DEnv} {fm fs fc : FE} {q c : Nat} (h : M.Ok B) (hq : q < M.tab.length) (hc : c < M.K) (em : fm δ = .ok (.im M.enc)) (es : fs δ = .ok (.im (.int (q : Nat)))) (ec : fc δ = .ok (.im (.str (tx [c])))) :
    fOp gIx (fOp gIx (fOp gIx fm (fC (.int 1))) fs) (fMtK isSB gSIdx (fOp gIx fm (fC (.int 0))) (aCons fc aNil)) δ = .ok (.im (.int (M.st q c : Nat))) := by
  obtain ⟨r, c1, c2, _⟩ := h.cell hq hc
  exact op_ok (op_ok (op_ok em rfl rfl) es (rowsAt c1)) (mtk_ok (op_ok em rfl rfl) rfl (cons_ok ec rfl) (sidx h.k hc)) (cellAt c2)
end
section
variable {M : Mc} {B s i n : Nat} {l : List Nat}
def Mc.hit (M : Mc) (q : Nat) : Bool := decide (q ∈ M.acc)
theorem inT_ok {q : Nat} {acc : List Nat} : gInT false (.im (.int (q : Nat))) (.im (.tuple (acc.map encI))) = .ok (.im (.bool (decide (q ∈ acc)))) := by
  have e : acc.map encI = (acc.map fun i => ((i : Nat) : Int)).map PyData.int := by rw [List.map_map]; rfl
  unfold gInT
  show (ofO (intsOf (acc.map encI))).bind _ = _
  rw [e, intsOf_map]
  show Tr.ok (R.im (PyData.bool (decide ((q : Int) ∈ acc.map fun i => ((i : Nat) : Int))))) = _
  have : ((q : Int) ∈ acc.map fun i => ((i : Nat) : Int)) ↔ q ∈ acc := by
    rw [List.mem_map]
    exact ⟨fun ⟨a, h1, h2⟩ => (Int.ofNat.inj h2) ▸ h1, fun h => ⟨q, h, rfl⟩⟩
  rw [decide_eq_decide.mpr this]
theorem hit_ok {δ : DEnv} {fm fs : FE} {q : Nat} (em : fm δ = .ok (.im M.enc)) (es : fs δ = .ok (.im (.int (q : Nat)))) : fOp (gInT false) fs (fOp gIx fm (fC (.int 2))) δ = .ok (.im (.bool (M.hit q))) :=
  op_ok es (op_ok em rfl rfl) inT_ok
theorem or_ok {δ : DEnv} {fa fb : FE} {a b : Bool} (ha : fa δ = .ok (.im (.bool a))) (hb : fb δ = .ok (.im (.bool b))) : fOr fa fb δ = .ok (.im (.bool (a || b))) := by
  unfold fOr
  rw [ha, bind_ok]
  cases a with
  | false => exact hb
  | true => rfl
end
section
variable {M : Mc} {B s i n : Nat} {l a b : List Nat}
theorem iS_ok {δ : DEnv} {f : FE} {z : Str} (h : f δ = .ok (.im (.str z))) : iS f δ = .ok (signs z) := by unfold iS; rw [h]; rfl
theorem lenT_ok {δ : DEnv} {f : FE} {xs : List D} (h : f δ = .ok (.im (.tuple xs))) : fCall gLen (aCons f aNil) δ = .ok (.im (.int (xs.length : Nat))) := call_ok (cons_ok h rfl) rfl
theorem many_ok {δ : DEnv} {f : FE} (h : f δ = .ok (.im M.enc)) : fCall gLen (aCons (fOp gIx f (fC (.int 1))) aNil) δ = .ok (.im (.int (M.tab.length : Nat))) := by
  have := lenT_ok (f := fOp gIx f (fC (.int 1))) (δ := δ) (xs := M.tab.map fun r => .tuple (r.map encI)) (op_ok h rfl rfl)
  rw [List.length_map] at this
  exact this
def encL (a b : List Nat) : D := .tuple [.str (tx a), .str (tx b)]
end
section
variable {a b c e : List Nat} {m n : Nat} {acc : List Nat}
theorem eqv_tx : PyData.eqv (.str (tx a)) (.str (tx b)) = decide (a = b) := by
  rw [PyData.eqv]
  by_cases h : a = b
  · subst h; simp
  · rw [decide_eq_false h]
    have : tx a ≠ tx b := fun q => h (tx_inj q)
    simpa using this
theorem eqv_nat : PyData.eqv (.int (m : Nat)) (.int (n : Nat)) = decide (m = n) := by
  rw [PyData.eqv]
  by_cases h : m = n
  · subst h; simp
  · rw [decide_eq_false h]
    have : ((m : Nat) : Int) ≠ ((n : Nat) : Int) := by omega
    simpa using this
theorem eqv_L : PyData.eqv (encL a b) (encL c e) = (decide (a = c) && decide (b = e)) := by
  unfold encL
  rw [PyData.eqv, PyData.eqvAll, PyData.eqvAll, PyData.eqvAll, eqv_tx, eqv_tx, Bool.and_true]
def Sm (l : List Nat) : Prop := ∀ c ∈ l, c < 100
theorem okTx (h : Sm a) : PyData.strOk (tx a) = true := by
  unfold PyData.strOk tx
  simp only [List.all_toArray, List.all_map, List.all_eq_true]
  intro c hc
  have := h c hc
  show decide (97 + c < 0x110000) = true
  exact decide_eq_true (by omega)
theorem shp_tx (h : Sm a) : shp (.str (tx a)) = true := by
  unfold shp SeqAt.shaped
  rw [Bool.and_eq_true]
  exact ⟨by rw [PyData.canLay0]; exact okTx h, decide_eq_true (by simp [PyData.depth])⟩
theorem shp_L (ha : Sm a) (hb : Sm b) : shp (encL a b) = true := by
  unfold shp SeqAt.shaped encL
  rw [Bool.and_eq_true]
  exact ⟨by simp [PyData.canLay0, PyData.canLayAll0, okTx ha, okTx hb], decide_eq_true (by simp [PyData.depth, PyData.depthAll])⟩
theorem shp_nat : shp (.int (n : Nat)) = true := by
  unfold shp SeqAt.shaped
  rw [Bool.and_eq_true]
  exact ⟨by rw [PyData.canLay0], decide_eq_true (by simp [PyData.depth])⟩
theorem lay_nats : PyData.canLayAll0 (acc.map encI) = true := by
  induction acc with
  | nil => rfl
  | cons p r ih =>
    rw [List.map_cons, PyData.canLayAll0, ih]
    unfold encI
    simp [PyData.canLay0]
theorem dep_nats : PyData.depthAll (acc.map encI) ≤ 1 := by
  induction acc with
  | nil => simp [PyData.depthAll]
  | cons p r ih =>
    rw [List.map_cons, PyData.depthAll]
    have : PyData.depth (encI p) = 0 := by unfold encI; simp [PyData.depth]
    rw [this]
    omega
theorem shp_nats : shp (.list (acc.map encI)) = true := by
  unfold shp SeqAt.shaped
  rw [Bool.and_eq_true]
  refine ⟨by rw [PyData.canLay0]; exact lay_nats, decide_eq_true ?_⟩
  have := dep_nats (acc := acc)
  rw [PyData.depth]
  omega
theorem eq_tx (ha : Sm a) (hb : Sm b) : gEq (.im (.str (tx a))) (.im (.str (tx b))) = .ok (.im (.bool (decide (a = b)))) := by
  unfold gEq
  show gd (shp _ && shp _) (Tr.ok (R.im (PyData.bool (PyData.eqv _ _)))) = _
  rw [shp_tx ha, shp_tx hb, eqv_tx]; rfl
theorem ne_tx (ha : Sm a) (hb : Sm b) : gNe (.im (.str (tx a))) (.im (.str (tx b))) = .ok (.im (.bool (!decide (a = b)))) := by
  unfold gNe
  show gd (shp _ && shp _) (Tr.ok (R.im (PyData.bool (!PyData.eqv _ _)))) = _
  rw [shp_tx ha, shp_tx hb, eqv_tx]; rfl
theorem eq_L (ha : Sm a) (hb : Sm b) (hc : Sm c) (he : Sm e) : gEq (.im (encL a b)) (.im (encL c e)) = .ok (.im (.bool (decide (a = c) && decide (b = e)))) := by
  unfold gEq
  show gd (shp (encL a b) && shp (encL c e)) (Tr.ok (R.im (PyData.bool (PyData.eqv (encL a b) (encL c e))))) = _
  rw [shp_L ha hb, shp_L hc he, eqv_L]; rfl
theorem ne_L (ha : Sm a) (hb : Sm b) (hc : Sm c) (he : Sm e) : gNe (.im (encL a b)) (.im (encL c e)) = .ok (.im (.bool (!(decide (a = c) && decide (b = e))))) := by
  unfold gNe
  show gd (shp (encL a b) && shp (encL c e)) (Tr.ok (R.im (PyData.bool (!PyData.eqv (encL a b) (encL c e))))) = _
  rw [shp_L ha hb, shp_L hc he, eqv_L]; rfl
theorem inD_nat : inD (.int (n : Nat)) (acc.map encI) = decide (n ∈ acc) := by
  unfold inD
  rw [List.any_map]
  induction acc with
  | nil => rfl
  | cons x r ih =>
    rw [List.any_cons, ih]
    show (PyData.eqv (.int (x : Nat)) (.int (n : Nat)) || _) = _
    rw [eqv_nat]
    by_cases h : x = n
    · subst h; simp
    · have : ¬ n = x := fun q => h q.symm
      simp [h, this]
theorem findD_nat : ∀ (acc : List Nat) (i : Nat), n ∈ acc → findD (.int (n : Nat)) (acc.map encI) i = some (i + acc.idxOf n)
  | [], i, h => by cases h
  | x :: r, i, h => by
    rw [List.map_cons, findD]
    show (if PyData.eqv (.int (x : Nat)) (.int (n : Nat)) then _ else _) = _
    rw [eqv_nat]
    by_cases e : x = n
    · subst e; simp
    · have : n ∈ r := by
        rcases List.mem_cons.mp h with z | z
        · exact absurd z.symm e
        · exact z
      rw [decide_eq_false e, if_neg Bool.false_ne_true, findD_nat r (i + 1) this, List.idxOf_cons]
      have : (x == n) = false := by simpa using e
      rw [this]
      simp only [Option.some.injEq, cond_false]
      omega
theorem notin_nats : gInL true (.im (.int (n : Nat))) (.ol (acc.map encI)) = .ok (.im (.bool (!decide (n ∈ acc)))) := by
  unfold gInL
  show gd (shp (.int (n : Nat)) && shp (.list (acc.map encI))) (Tr.ok (R.im (PyData.bool (!inD (.int (n : Nat)) (acc.map encI))))) = _
  rw [shp_nat, shp_nats, inD_nat]; rfl
theorem index_nats (h : n ∈ acc) : gLIndex (.bl (acc.map encI)) [.im (.int (n : Nat))] = .ok (.im (.int (acc.idxOf n : Nat))) := by
  unfold gLIndex
  show gd (shp (.list (acc.map encI)) && shp (.int (n : Nat))) ((ofO (findD (.int (n : Nat)) (acc.map encI) 0)).bind _) = _
  rw [shp_nat, shp_nats, findD_nat acc 0 h, Nat.zero_add]; rfl
end
section
variable {M : Mc} {B z s q i j n m c k K N p : Nat} {l a b w x y u : List Nat} {Q : List En} {e : En} {δ : DEnv} {fa fb : FE} {PX : Xn → Prop}
theorem nodup_lt : ∀ (N : Nat) (l : List Nat), l.Nodup → (∀ x ∈ l, x < N) → l.length ≤ N
  | 0, l, _, hb => by
    cases l with
    | nil => exact Nat.le_refl _
    | cons x r => exact absurd (hb x (List.mem_cons_self ..)) (Nat.not_lt_zero _)
  | N + 1, l, hd, hb => by
    by_cases h : N ∈ l
    · have h1 := nodup_lt N (l.erase N) (hd.erase N) fun x hx => by
        have h2 := (List.Nodup.mem_erase_iff hd).mp hx
        have := hb x h2.2
        omega
      rw [List.length_erase_of_mem h] at h1
      omega
    · have := nodup_lt N l hd fun x hx => by
        have h2 := hb x hx
        have : x ≠ N := fun e => h (e ▸ hx)
        omega
      omega
end
section
variable {M : Mc} {B s i n : Nat} {l a b : List Nat}
theorem sm_K (h : M.Ok B) (ha : ∀ i ∈ a, i < M.K) : Sm a := fun c hc => by
  have := ha c hc
  have := h.k
  omega
theorem empty_tx : (.str ("" : Str) : D) = .str (tx []) := rfl
theorem cut_drop {xs : List D} {j : Nat} (h : j ≤ xs.length) : cutD xs (some ((j : Nat) : Int)) none = xs.drop j := by
  unfold cutD
  have : HT.sIx xs.length 0 (some ((j : Nat) : Int)) = j := by
    rw [HT.sIx_nat]
    omega
  rw [this]
  show (xs.drop j).take (xs.length - j) = _
  rw [List.take_of_length_le]
  rw [List.length_drop]
  exact Nat.le_refl _
end
section
variable {i j n : Nat} {l a b : List Nat}
theorem tx_of {z : Str} (h : z.cps.toList = l.map (97 + ·)) : z = tx l := by
  obtain ⟨⟨c⟩⟩ := z
  unfold tx
  rw [← h]
theorem slice_ss (h1 : i ≤ j) (h2 : j ≤ l.length) : Txt.slice (tx l) (some (i : Int)) (some (j : Int)) = tx ((l.drop i).take (j - i)) := tx_of (by
  rw [PySem.W.os_slice h1 (by rw [tx_len]; exact h2), tx_cps, List.map_take, List.map_drop])
theorem slice_ns : Txt.slice (tx l) none (some (n : Int)) = tx (l.take n) := by
  have e : Txt.slice (tx l) none (some (n : Int)) = Txt.slice (tx l) (some ((0 : Nat) : Int)) (some ((min n l.length : Nat) : Int)) := by
    have : Builtin.Str.strSliceIndices none (some (n : Int)) 1 (tx l).length = Builtin.Str.strSliceIndices (some ((0 : Nat) : Int)) (some ((min n l.length : Nat) : Int)) 1 (tx l).length := by
      unfold Builtin.Str.strSliceIndices
      rw [tx_len]
      simp only [show (1 : Int) > 0 by decide, if_true]
      congr 1
      all_goals first | omega | (simp only [Int.natCast_nonneg]; omega) | trace_state
    unfold Txt.slice
    rw [this]
  rw [e, slice_ss (Nat.zero_le _) (Nat.min_le_right _ _), List.drop_zero, Nat.sub_zero]
  congr 1
  by_cases h : n ≤ l.length
  · rw [Nat.min_eq_left h]
  · rw [Nat.min_eq_right (by omega), List.take_length, List.take_of_length_le (by omega)]
end
section
variable {i j n c : Nat} {l a b : List Nat}
theorem slice_m1 (h : l ≠ []) : Txt.slice (tx l) none (some (-1)) = tx l.dropLast := by
  have hl : 0 < l.length := List.length_pos_iff.mpr h
  have e : Txt.slice (tx l) none (some (-1)) = Txt.slice (tx l) none (some ((l.length - 1 : Nat) : Int)) := by
    have : Builtin.Str.strSliceIndices none (some (-1)) 1 (tx l).length = Builtin.Str.strSliceIndices none (some ((l.length - 1 : Nat) : Int)) 1 (tx l).length := by
      unfold Builtin.Str.strSliceIndices
      rw [tx_len]
      simp only [show (1 : Int) > 0 by decide, if_true]
      congr 1
      all_goals first | omega | (simp only [Int.natCast_nonneg]; omega) | trace_state
    unfold Txt.slice
    rw [this]
  rw [e, slice_ns, List.dropLast_eq_take]
theorem ixS_m1 (h : l.getLast? = some c) (hl : l.length ≤ 1000) : gIx (.im (.str (tx l))) (.im (.int (-1))) = .ok (.im (.str (tx [c]))) := by
  have h0 : l ≠ [] := fun e => by rw [e] at h; cases h
  have hp : 0 < l.length := List.length_pos_iff.mpr h0
  unfold gIx
  show gd (szOk (tx l).length) ((ofO (atI (tx l).cps.toList (-1))).bind _) = _
  have : atI (tx l).cps.toList (-1) = some (97 + c) := by
    unfold atI ixN
    rw [tx_cps, List.length_map, if_neg (by omega), if_pos (by omega)]
    rw [List.getLast?_eq_getElem?] at h
    rw [show ((-1 : Int) + (l.length : Int)).toNat = l.length - 1 by omega]
    simp [List.getElem?_map, h]
  rw [this, tx_len]
  unfold szOk
  rw [decide_eq_true (by omega)]
  rfl
end
section
variable {i j n c : Nat} {l a b s : List Nat}
theorem par_ok {δ : DEnv} {faa : FA} {d1 d2 : D} (h : faa δ = .ok [.im d1, .im d2]) : sParF i j faa δ = .ok (.nx ((δ.set i (some (.im d1))).set j (some (.im d2)))) := by unfold sParF; rw [h]; rfl
theorem slice_m1_ok {δ : DEnv} {f : FE} (hf : f δ = .ok (.im (.str (tx l)))) (h : l ≠ []) (hl : l.length ≤ 1000) : fSlice f oN (oS (fC (.int (-1)))) δ = .ok (.im (.str (tx l.dropLast))) := by
  unfold fSlice
  rw [hf, bind_ok]
  show gd (szOk (tx l).length) (Tr.ok (R.im (PyData.str (Txt.slice (tx l) none (some (-1)))))) = _
  rw [slice_m1 h, tx_len]
  unfold szOk
  rw [decide_eq_true (by omega)]
  rfl
theorem memDL {α : Type} {l : List α} {c : α} (h : c ∈ l.dropLast) : c ∈ l := (List.dropLast_sublist l).mem h
theorem last_some (h : l ≠ []) : ∃ c, l.getLast? = some c ∧ c ∈ l := ⟨l.getLast h, List.getLast?_eq_some_getLast h, List.getLast_mem h⟩
end
section
variable {i j n c : Nat} {l a b s w : List Nat}
theorem forF_find {α : Type} {e : α → D} {g : FG} {b : FS} {p : α → Bool} {val : α → R} (Inv : DEnv → Prop) : ∀ (ts : List α) (δ : DEnv), Inv δ → (∀ t ∈ ts, ∀ δ, Inv δ → ∃ δ1, g (e t) δ = .ok δ1 ∧ (p t = true → b δ1 = .ok (.rt (val t))) ∧ (p t = false → ∃ δ2, b δ1 = .ok (.nx δ2) ∧ Inv δ2)) →
    (∃ t, ts.find? p = some t ∧ forF g b (ts.map e) δ = .ok (.rt (val t))) ∨ (ts.find? p = none ∧ ∃ δ', forF g b (ts.map e) δ = .ok (.nx δ') ∧ Inv δ')
  | [], δ, h, _ => .inr ⟨rfl, δ, rfl, h⟩
  | t :: ts, δ, h, hs => by
    obtain ⟨δ1, e1, e2, e3⟩ := hs t (List.mem_cons_self ..) δ h
    cases hp : p t with
    | true =>
      refine .inl ⟨t, by rw [List.find?_cons, hp], ?_⟩
      rw [List.map_cons, forF, e1]
      show (b δ1).bind _ = _
      rw [e2 hp]; rfl
    | false =>
      obtain ⟨δ2, e4, h2⟩ := e3 hp
      have ef : forF g b ((t :: ts).map e) δ = forF g b (ts.map e) δ2 := by
        rw [List.map_cons, forF, e1]
        show (b δ1).bind _ = _
        rw [e4]; rfl
      rw [ef, List.find?_cons, hp]
      exact forF_find Inv ts δ2 h2 fun t ht => hs t (List.mem_cons_of_mem _ ht)
end
section
variable {i j n c k : Nat} {l a b s w : List Nat}
theorem len_tx' (h : w.length ≤ 16777216) {δ : DEnv} {f : FE} (hf : f δ = .ok (.im (.str (tx w)))) : fCall gLen (aCons f aNil) δ = .ok (.im (.int (w.length : Nat))) := by
  refine call_ok (cons_ok hf rfl) ?_
  show gd (szOk (tx w).length) (Tr.ok (R.im (PyData.int ((tx w).length : Nat)))) = _
  rw [tx_len]
  unfold szOk
  rw [decide_eq_true h]
  rfl
theorem intsD_range' {m : Nat} : intsD 1 m = (List.range' 1 m).map encI := by
  unfold intsD
  rw [List.range'_eq_map_range, List.map_map]
  refine List.map_congr_left fun i _ => ?_
  show PyData.int (1 + (i : Nat)) = PyData.int ((1 + i : Nat) : Int)
  rw [Int.natCast_add]; rfl
theorem R2_ok {δ : DEnv} {faa : FA} {m : Nat} (h : faa δ = .ok [.im (.int 1), .im (.int ((m : Nat) + 1))]) (hm : m ≤ 100000) : iR2 faa δ = .ok ((List.range' 1 m).map encI) := by
  unfold iR2
  rw [h, bind_ok]
  try dsimp only
  have h1 : rgOk 1 = true := rg_ok (m := 1) (by omega)
  have h2 : rgOk ((m : Nat) + 1) = true := rg_ok (m := m + 1) (by omega)
  rw [h1, h2]
  show Tr.ok (intsD 1 (((m : Nat) : Int) + 1 - 1).toNat) = _
  rw [← intsD_range']
  congr 2
  omega
theorem slice_take_ok {δ : DEnv} {f fk : FE} {k : Nat} (hf : f δ = .ok (.im (.str (tx l)))) (hk : fk δ = .ok (.im (.int (k : Nat)))) (hl : l.length ≤ 1000) : fSlice f oN (oS fk) δ = .ok (.im (.str (tx (l.take k)))) := by
  unfold fSlice
  rw [hf, bind_ok]
  have e : oS fk δ = .ok (some ((k : Nat) : Int)) := by unfold oS; rw [hk]; rfl
  show (oN δ).bind (fun l' => (oS fk δ).bind fun h => gSlice _ l' h) = _
  rw [e]
  show gd (szOk (tx l).length) (Tr.ok (R.im (PyData.str (Txt.slice (tx l) none (some ((k : Nat) : Int)))))) = _
  rw [slice_ns, tx_len]
  unfold szOk
  rw [decide_eq_true (by omega)]
  rfl
theorem sm_take (h : Sm l) : Sm (l.take n) := fun c hc => h c (List.mem_of_mem_take hc)
theorem sm_app (h : Sm a) (h' : Sm b) : Sm (a ++ b) := fun c hc => (List.mem_append.mp hc).elim (h c) (h' c)
theorem div_ok {m k : Nat} (h1 : 1 ≤ k) (h2 : k < 1073741824) : gDiv (.im (.int (m : Nat))) (.im (.int (k : Nat))) = .ok (.im (.int (m / k : Nat))) := by
  unfold gDiv gIC
  show gd (divOk ((k : Nat) : Int)) (Tr.ok (R.im (PyData.int (((m : Nat) : Int) / ((k : Nat) : Int))))) = _
  have : divOk ((k : Nat) : Int) = true := by
    unfold divOk
    rw [decide_eq_true (by omega), decide_eq_true (by omega)]; rfl
  rw [this]
  rfl
end
section
variable {M : Mc} {B z s q i j n m c k K N p : Nat} {l a b w x y u : List Nat} {Q : List En} {e : En} {δ : DEnv} {fa fb : FE} {PX : Xn → Prop}
def num (K : Nat) (l : List Nat) : Nat := l.foldl (fun a c => K * a + 1 + c) 0
theorem num_snoc : num K (l ++ [c]) = K * num K l + 1 + c := by unfold num; rw [List.foldl_append]; rfl
end
section
variable {M : Mc} {B z s q i j n m c k K N p : Nat} {l a b w x y u : List Nat} {Q : List En} {e : En} {δ : DEnv} {fa fb : FE} {PX : Xn → Prop}
def kv (e : En) : Key × D := (.inl ((e.1 : Nat) : Int), .str (tx e.2))
def encE (e : En) : D := .tuple [.int (e.1 : Nat), .str (tx e.2)]
theorem val_kv : valD (Q.map kv) (.inl ((q : Nat) : Int)) = (Q.find? fun e => decide (e.1 = q)).map fun e => .str (tx e.2) := by
  induction Q with
  | nil => rfl
  | cons e r ih =>
    have h0 : valD ((e :: r).map kv) (.inl ((q : Nat) : Int)) = if e.1 = q then some (.str (tx e.2)) else valD (r.map kv) (.inl ((q : Nat) : Int)) := by
      unfold valD
      rw [List.map_cons, List.find?_cons]
      by_cases h : e.1 = q
      · subst h; simp [kv]
      · have : ¬ (kv e).1 = .inl ((q : Nat) : Int) := fun z => h (by have := Sum.inl.inj z; omega)
        simp [h, this]
    rw [h0, ih, List.find?_cons]
    by_cases h : e.1 = q
    · simp [h]
    · simp [h]
theorem val_none (h : q ∉ Q.map (·.1)) : valD (Q.map kv) (.inl ((q : Nat) : Int)) = none := by
  rw [val_kv, Option.map_eq_none_iff, List.find?_eq_none]
  intro e he h'
  exact h (List.mem_map.mpr ⟨e, he, of_decide_eq_true h'⟩)
theorem val_some (hn : (Q.map (·.1)).Nodup) (h : e ∈ Q) : valD (Q.map kv) (.inl ((e.1 : Nat) : Int)) = some (.str (tx e.2)) := by
  rw [val_kv]
  induction Q with
  | nil => cases h
  | cons f r ih =>
    rw [List.find?_cons]
    rw [List.map_cons, List.nodup_cons] at hn
    rcases List.mem_cons.mp h with rfl | h
    · rw [decide_eq_true rfl]; rfl
    · have : f.1 ≠ e.1 := fun z => hn.1 (List.mem_map.mpr ⟨e, h, z.symm⟩)
      rw [decide_eq_false this]
      exact ih hn.2 h
theorem val_isSome : (valD (Q.map kv) (.inl ((q : Nat) : Int))).isSome = decide (q ∈ Q.map (·.1)) := by
  by_cases h : q ∈ Q.map (·.1)
  · rw [decide_eq_true h, val_kv, Option.isSome_map, List.find?_isSome]
    obtain ⟨e, he, rfl⟩ := List.mem_map.mp h
    exact ⟨e, he, decide_eq_true rfl⟩
  · rw [decide_eq_false h, val_none h]; rfl
theorem dnot_ok (ha : fa δ = .ok (.im (.int (q : Nat)))) (hb : fb δ = .ok (.bK (Q.map kv))) : tB (fOp (gDinz true) fa fb) δ = .ok (!decide (q ∈ Q.map (·.1))) := by
  refine tB_ok (op_ok ha hb ?_)
  show Tr.ok (R.im (PyData.bool (!(valD (Q.map kv) (.inl ((q : Nat) : Int))).isSome))) = _
  rw [val_isSome]
theorem dgz_ok (hn : (Q.map (·.1)).Nodup) (h : e ∈ Q) (ha : fa δ = .ok (.bK (Q.map kv))) (hb : fb δ = .ok (.im (.int (e.1 : Nat)))) : fOp gDgz fa fb δ = .ok (.im (.str (tx e.2))) := by
  refine op_ok ha hb ?_
  unfold gDgz
  have : getZ (R.bK (Q.map kv)) (.im (.int (e.1 : Nat))) = some (some (.str (tx e.2))) := by
    show some (valD (Q.map kv) (.inl ((e.1 : Nat) : Int))) = _
    rw [val_some hn h]
  rw [this]
theorem putF_ok' (h : q ∉ Q.map (·.1)) (hl : Q.length < 16777216) : putF (.oK (Q.map kv)) (.int (q : Nat)) (.str (tx w)) = .ok (.oK ((Q ++ [(q, w)]).map kv)) := by
  show gd (decide ((Q.map kv).length < 16777216)) (Tr.ok (SV.oK (putD (Q.map kv) (.inl ((q : Nat) : Int)) (.str (tx w))))) = _
  rw [List.length_map, decide_eq_true hl, putD_new (val_none h), List.map_append]
  rfl
theorem en_ok (hK : K ≤ 3) (h : fa δ = .ok (.im (.str (tx (List.range K))))) : iEG (aCons fa aNil) δ = .ok ((List.range K).map fun i => .tuple [.int (i : Nat), .str (tx [i])]) := by
  unfold iEG
  rw [cons_ok h rfl]
  have : K = 0 ∨ K = 1 ∨ K = 2 ∨ K = 3 := by omega
  rcases this with rfl | rfl | rfl | rfl <;> rfl
theorem tr_ol {δ : DEnv} {i : Nat} {xs : List D} (h : fV i δ = .ok (.bl xs)) : tTruF (fV i) δ = .ok (!xs.isEmpty) := by
  unfold tTruF
  rw [h]
  cases xs <;> rfl
end
section
variable {M : Mc} {B z s q i j n m c k K N p : Nat} {l a b w x y u : List Nat} {Q : List En} {e : En} {δ : DEnv} {fa fb : FE} {PX : Xn → Prop}
theorem drop_snoc {α : Type} {l : List α} {x : α} (h : n ≤ l.length) : (l ++ [x]).drop n = l.drop n ++ [x] := List.drop_append_of_le_length h
theorem range_at {α : Type} {f : Nat → α} {d : α} (h : ((List.range n).map f)[i]? = some d) : i < n ∧ d = f i := by
  have hi := (List.getElem?_eq_some_iff.mp h).1
  rw [List.length_map, List.length_range] at hi
  rw [List.getElem?_map, List.getElem?_range hi] at h
  exact ⟨hi, (Option.some.inj h).symm⟩
end
section
variable {M : Mc} {B z s q i j n m c k K N p : Nat} {l a b w x y u : List Nat} {Q : List En} {e : En} {δ : DEnv} {fa fb : FE} {PX : Xn → Prop}
def st1 (e : En) : D := .int (e.1 : Nat)
theorem al_at (h : M.Ok B) (hc : c < M.K) : gIx (.im (.str M.al)) (.im (.int (c : Nat))) = .ok (.im (.str (tx [c]))) := by
  unfold Mc.al
  rcases h.k with e | e | e
  · rw [e] at hc ⊢
    have : c = 0 := by omega
    subst this; rfl
  · rw [e] at hc ⊢
    have : c = 0 ∨ c = 1 := by omega
    rcases this with rfl | rfl <;> rfl
  · rw [e] at hc ⊢
    have : c = 0 ∨ c = 1 ∨ c = 2 := by omega
    rcases this with rfl | rfl | rfl <;> rfl
end
section
variable {M : Mc} {B z s q i j n m c k K N p : Nat} {l a b w x y u : List Nat} {Q : List En} {e : En} {δ : DEnv} {fa fb : FE} {PX : Xn → Prop}
def longer' (K : Nat) (ws : List (List Nat)) : List (List Nat) := ws.flatMap fun w => (List.range K).map fun c => w ++ [c]
def allW (K : Nat) : Nat → List (List Nat) × List (List Nat)
  | 0 => ([[]], [[]])
  | n + 1 => let p := allW K n; (longer' K p.1, p.2 ++ longer' K p.1)
theorem mem_lv : ∀ (n : Nat) (w : List Nat), w ∈ (allW K n).1 ↔ w.length = n ∧ ∀ c ∈ w, c < K
  | 0, w => by
    show w ∈ [[]] ↔ _
    rw [List.mem_singleton]
    exact ⟨fun h => by subst h; exact ⟨rfl, fun c hc => by cases hc⟩, fun h => List.length_eq_zero_iff.mp h.1⟩
  | n + 1, w => by
    show w ∈ longer' K (allW K n).1 ↔ _
    unfold longer'
    rw [List.mem_flatMap]
    constructor
    · rintro ⟨u, hu, hw⟩
      obtain ⟨h1, h2⟩ := (mem_lv n u).mp hu
      obtain ⟨c, hc, rfl⟩ := List.mem_map.mp hw
      refine ⟨by rw [List.length_append, h1]; rfl, fun d hd => ?_⟩
      rcases List.mem_append.mp hd with h | h
      · exact h2 d h
      · rw [List.mem_singleton.mp h]; exact List.mem_range.mp hc
    · rintro ⟨h1, h2⟩
      have h0 : w ≠ [] := fun e => by rw [e] at h1; cases h1
      refine ⟨w.dropLast, (mem_lv n _).mpr ⟨by rw [List.length_dropLast]; omega, fun c hc => h2 c (memDL hc)⟩, List.mem_map.mpr ⟨w.getLast h0, List.mem_range.mpr (h2 _ (List.getLast_mem h0)), List.dropLast_concat_getLast h0⟩⟩
theorem mem_all : ∀ (n : Nat) (w : List Nat), w ∈ (allW K n).2 ↔ w.length ≤ n ∧ ∀ c ∈ w, c < K
  | 0, w => by
    show w ∈ [[]] ↔ _
    rw [List.mem_singleton]
    exact ⟨fun h => by subst h; exact ⟨Nat.le_refl _, fun c hc => by cases hc⟩, fun h => List.length_eq_zero_iff.mp (Nat.le_zero.mp h.1)⟩
  | n + 1, w => by
    show w ∈ (allW K n).2 ++ (allW K (n + 1)).1 ↔ _
    rw [List.mem_append, mem_all n w, mem_lv (n + 1) w]
    constructor
    · rintro (⟨h1, h2⟩ | ⟨h1, h2⟩)
      · exact ⟨by omega, h2⟩
      · exact ⟨by omega, h2⟩
    · rintro ⟨h1, h2⟩
      by_cases h : w.length = n + 1
      · exact .inr ⟨h, h2⟩
      · exact .inl ⟨by omega, h2⟩
theorem all_head : ∀ n, ∃ t, (allW K n).2 = [] :: t ∧ ∀ w ∈ t, w ≠ []
  | 0 => ⟨[], rfl, fun w hw => by cases hw⟩
  | n + 1 => by
    obtain ⟨t, h1, h2⟩ := all_head n
    refine ⟨t ++ (allW K (n + 1)).1, ?_, fun w hw => ?_⟩
    · show (allW K n).2 ++ _ = _
      rw [h1]; rfl
    · rcases List.mem_append.mp hw with h | h
      · exact h2 w h
      · have := ((mem_lv (n + 1) w).mp h).1
        intro e
        rw [e] at this
        cases this
theorem mem_drop1 : w ∈ (allW K n).2.drop 1 ↔ w ≠ [] ∧ w.length ≤ n ∧ ∀ c ∈ w, c < K := by
  obtain ⟨t, h1, h2⟩ := all_head (K := K) n
  rw [← mem_all n w, h1]
  show w ∈ t ↔ _
  rw [List.mem_cons]
  exact ⟨fun h => ⟨h2 w h, .inr h⟩, fun ⟨h3, h4⟩ => h4.elim (fun e => absurd e h3) id⟩
theorem find_min {K : Nat} {p : List Nat → Bool} : ∀ {l : List (List Nat)}, (l.Pairwise fun a b => num K a < num K b) → y ∈ l → p y = true → (∀ x ∈ l, p x = true → num K y ≤ num K x) → l.find? p = some y
  | [], _, h, _, _ => by cases h
  | x :: r, hp, h, py, hm => by
    rw [List.pairwise_cons] at hp
    rw [List.find?_cons]
    cases px : p x with
    | true =>
      rcases List.mem_cons.mp h with rfl | h'
      · rfl
      · have h1 := hp.1 y h'
        have h2 := hm x (List.mem_cons_self ..) px
        omega
    | false =>
      rcases List.mem_cons.mp h with rfl | h'
      · rw [px] at py; cases py
      · exact find_min hp.2 h' py fun x' hx' => hm x' (List.mem_cons_of_mem _ hx')
theorem fst_inj (hn : (Q.map (·.1)).Nodup) : ∀ {e f : En}, e ∈ Q → f ∈ Q → e.1 = f.1 → e = f := by
  induction Q with
  | nil => intro e f he; cases he
  | cons g r ih =>
    intro e f he hf h
    rw [List.map_cons, List.nodup_cons] at hn
    rcases List.mem_cons.mp he with e1 | he1
    · rcases List.mem_cons.mp hf with e2 | hf1
      · rw [e1, e2]
      · exact absurd (List.mem_map.mpr ⟨f, hf1, by rw [← h, e1]⟩) hn.1
    · rcases List.mem_cons.mp hf with e2 | hf1
      · exact absurd (List.mem_map.mpr ⟨e, he1, by rw [h, e2]⟩) hn.1
      · exact ih hn.2 he1 hf1 h
def encO : Option (List Nat) → D
  | none => .none
  | some w => .str (tx w)
theorem items_ok {f : FE} (hf : f δ = .ok (.oK (Q.map kv))) : FW.iItems (fFrz f) δ = .ok (Q.map encE) := by
  unfold FW.iItems fFrz
  rw [hf]
  show gd (isDK ((Q.map kv).map fun kv => (keyD kv.1, kv.2))) (Tr.ok (pairsD ((Q.map kv).map fun kv => (keyD kv.1, kv.2)))) = _
  have h1 : isDK ((Q.map kv).map fun kv => (keyD kv.1, kv.2)) = true := by cases Q <;> rfl
  rw [h1]
  unfold pairsD
  rw [List.map_map, List.map_map]
  rfl
theorem get1_ok {f fk : FE} (hf : f δ = .ok (.oK (Q.map kv))) (hk : fk δ = .ok (.im (.int (q : Nat)))) : fGet1 f fk δ = .ok (.im (encO ((Q.find? fun e => decide (e.1 = q)).map (·.2)))) := by
  unfold fGet1
  rw [hf, bind_ok]
  show ((fk δ).bind fun y => gGet1 (.oK (Q.map kv)) y) = _
  rw [hk, bind_ok]
  unfold gGet1
  have : getZ (R.oK (Q.map kv)) (.im (.int (q : Nat))) = some ((Q.find? fun e => decide (e.1 = q)).map fun e => .str (tx e.2)) := by
    show some (valD (Q.map kv) (.inl ((q : Nat) : Int))) = _
    rw [val_kv]
  rw [this]
  cases Q.find? fun e => decide (e.1 = q) <;> rfl
theorem isN_O {neg : Bool} {o : Option (List Nat)} {f : FE} (hf : f δ = .ok (.im (encO o))) : tB (fOp (gIsN neg) f (fC .none)) δ = .ok (if neg then o.isSome else o.isNone) := by
  refine tB_ok (op_ok hf rfl ?_)
  cases o <;> cases neg <;> rfl
end
section
variable {M : Mc} {B z s q i j n m c k K N p : Nat} {l a b w x y u : List Nat} {Q : List En} {e : En} {δ : DEnv} {fa fb : FE} {PX : Xn → Prop}
theorem ixS_ok (h : l[i]? = some c) (hl : l.length ≤ 1000) : gIx (.im (.str (tx l))) (.im (.int (i : Nat))) = .ok (.im (.str (tx [c]))) := by
  have hi := (List.getElem?_eq_some_iff.mp h).1
  show gd (szOk (tx l).length) ((ofO (atI (tx l).cps.toList (i : Int))).bind _) = _
  rw [tx_len, tx_cps]
  have h1 : szOk l.length = true := by unfold szOk; exact decide_eq_true (by omega)
  have h2 : atI (l.map (97 + ·)) (i : Int) = some (97 + c) := by
    unfold atI ixN
    rw [List.length_map, if_pos (by omega), if_pos (by omega)]
    simp [h]
  rw [h1, h2]
  rfl
theorem lt_ok {m n : Nat} {fa fb : FE} (ha : fa δ = .ok (.im (.int (m : Nat)))) (hb : fb δ = .ok (.im (.int (n : Nat)))) : tB (fOp gLt fa fb) δ = .ok (decide (m < n)) := by
  refine tB_ok (op_ok ha hb ?_)
  show Tr.ok (R.im (.bool (decide _))) = _
  congr 3
  exact decide_eq_decide.mpr Int.ofNat_lt
theorem ex_map {α β : Type} {P : α → Prop} {e : α → β} : ∀ {out : List β}, (∀ d ∈ out, ∃ o, d = e o ∧ P o) → ∃ os : List α, out = os.map e ∧ ∀ o ∈ os, P o
  | [], _ => ⟨[], rfl, fun o ho => by cases ho⟩
  | d :: r, h => by
    obtain ⟨o, rfl, p⟩ := h _ (List.mem_cons_self ..)
    obtain ⟨os, rfl, ps⟩ := ex_map fun d hd => h d (List.mem_cons_of_mem _ hd)
    refine ⟨o :: os, rfl, fun x hx => ?_⟩
    rcases List.mem_cons.mp hx with z | z
    · rw [z]; exact p
    · exact ps x z
theorem sat_fcons {δ : DEnv} {f : FE} {faa : FA} {PA : List R → Prop} (h : (f δ).sat (fun r => ∃ r', r.frz = some r' ∧ (faa δ).sat (fun rs => PA (r' :: rs)) PX) PX) : (aFCons f faa δ).sat PA PX := Tr.sat_bind.mpr (Tr.sat_of h fun r hr => by
  obtain ⟨r', e, p⟩ := hr
  try dsimp only
  rw [e]
  exact Tr.sat_bind.mpr p)
theorem sat_lcIfF {g : FG} {t : FT} {f : FE} {PD : D → Prop} {δ0 : DEnv} : ∀ (items acc : List D), acc.length + items.length ≤ 16777216 → (∀ d ∈ items, ∃ δ1, g d δ0 = .ok δ1 ∧ (t δ1).sat (fun b => b = true → ∃ r d', f δ1 = .ok r ∧ r.dat = some d' ∧ PD d') fun _ => False) →
    (lcF g t f δ0 items acc).sat (fun out => ∃ new, out = acc ++ new ∧ new.length ≤ items.length ∧ ∀ d ∈ new, PD d) PX
  | [], acc, _, _ => ⟨[], (List.append_nil _).symm, Nat.le_refl _, fun d hd => by cases hd⟩
  | d :: ds, acc, hl, hs => by
    rw [List.length_cons] at hl
    obtain ⟨δ1, e1, h2⟩ := hs d (List.mem_cons_self ..)
    rw [lcF, e1]
    show ((calm (t δ1)).bind _).sat _ _
    refine Tr.sat_bind.mpr (Tr.sat_of (calm_mk h2) fun b hb => ?_)
    cases b with
    | false =>
      refine Tr.sat_of (sat_lcIfF ds acc (by omega) fun d hd => hs d (List.mem_cons_of_mem _ hd)) fun out ho => ?_
      obtain ⟨new, e4, e5, e6⟩ := ho
      exact ⟨new, e4, by rw [List.length_cons]; omega, e6⟩
    | true =>
      obtain ⟨r, d', e2, e3, p⟩ := hb rfl
      show ((calm (f δ1)).bind _).sat _ _
      rw [e2]
      show (match r.dat with | some d' => gd (decide (acc.length < 16777216)) (lcF g t f δ0 ds (acc ++ [d'])) | none => Tr.no).sat _ _
      rw [e3]
      show (gd _ _).sat _ _
      rw [decide_eq_true (by omega)]
      refine Tr.sat_of (sat_lcIfF ds (acc ++ [d']) (by rw [List.length_append]; simp; omega) fun d hd => hs d (List.mem_cons_of_mem _ hd)) fun out ho => ?_
      obtain ⟨new, e4, e5, e6⟩ := ho
      refine ⟨d' :: new, by rw [e4, List.append_assoc]; rfl, by rw [List.length_cons, List.length_cons]; omega, fun x hx => ?_⟩
      rcases List.mem_cons.mp hx with z | z
      · rw [z]; exact p
      · exact e6 x z
theorem sat_lcIf {g : FG} {t : FT} {f : FE} {δ : DEnv} {P : R → Prop} {PD : D → Prop} {fi : FI} {vs : List Nat} (hi : (fi δ).sat (fun items => items.length ≤ 16777216 ∧ (∀ d ∈ items, ∃ δ1, g d (wipeD δ vs) = .ok δ1 ∧ (t δ1).sat (fun b => b = true → ∃ r d', f δ1 = .ok r ∧ r.dat = some d' ∧ PD d') fun _ => False) ∧ ∀ out : List D, out.length ≤ items.length → (∀ d ∈ out, PD d) → P (.ol out)) PX) : (fLc fi g t f vs δ).sat P PX := by
  unfold fLc
  refine Tr.sat_bind.mpr (Tr.sat_of hi fun items hr => ?_)
  obtain ⟨hl, h, hp⟩ := hr
  refine Tr.sat_bind.mpr (Tr.sat_of (sat_lcIfF items [] (by simpa using hl) h) fun out ho => ?_)
  obtain ⟨new, e, e2, e3⟩ := ho
  rw [List.nil_append] at e
  subst e
  exact hp _ e2 e3
theorem sat_iS {δ : DEnv} {f : FE} {z : Str} {P : List D → Prop} (h : f δ = .ok (.im (.str z))) (p : P (signs z)) : (iS f δ).sat P PX := by rw [iS_ok h]; exact p
end
section
variable {M : Mc} {B z s q i j n m c k K N p : Nat} {l a b w x y u : List Nat} {Q : List En} {e : En} {δ : DEnv} {fa fb : FE} {PX : Xn → Prop}
theorem ne_self {d : D} (h1 : shp d = true) (h2 : PyData.eqv d d = true) : gNe (.im d) (.im d) = .ok (.im (.bool false)) := by
  show gd (shp d && shp d) (Tr.ok (R.im (PyData.bool (!PyData.eqv d d)))) = _
  rw [h1, h2]; rfl
theorem ne_bool (b : Bool) : gNe (.im (.bool b)) (.im (.bool b)) = .ok (.im (.bool false)) := by cases b <;> rfl
theorem slice_sn (h : n ≤ l.length) : Txt.slice (tx l) (some (n : Int)) none = tx (l.drop n) := by
  have e : Txt.slice (tx l) (some (n : Int)) none = Txt.slice (tx l) (some ((n : Nat) : Int)) (some ((l.length : Nat) : Int)) := by
    have : Builtin.Str.strSliceIndices (some (n : Int)) none 1 (tx l).length = Builtin.Str.strSliceIndices (some ((n : Nat) : Int)) (some ((l.length : Nat) : Int)) 1 (tx l).length := by
      unfold Builtin.Str.strSliceIndices
      rw [tx_len]
      simp only [show (1 : Int) > 0 by decide, if_true]
      congr 1
      all_goals first | omega | (simp only [Int.natCast_nonneg]; omega) | trace_state
    unfold Txt.slice
    rw [this]
  rw [e, slice_ss h (Nat.le_refl _), List.take_of_length_le (by rw [List.length_drop]; exact Nat.le_refl _)]
theorem slice_drop_ok {f fk : FE} {k : Nat} (hf : f δ = .ok (.im (.str (tx l)))) (hk : fk δ = .ok (.im (.int (k : Nat)))) (hl : l.length ≤ 1000) (hk2 : k ≤ l.length) : fSlice f (oS fk) oN δ = .ok (.im (.str (tx (l.drop k)))) := by
  unfold fSlice
  rw [hf, bind_ok]
  have e : oS fk δ = .ok (some ((k : Nat) : Int)) := by unfold oS; rw [hk]; rfl
  rw [e, bind_ok]
  show gd (szOk (tx l).length) (Tr.ok (R.im (PyData.str (Txt.slice (tx l) (some ((k : Nat) : Int)) none)))) = _
  rw [slice_sn hk2, tx_len]
  unfold szOk
  rw [decide_eq_true (by omega)]
  rfl
theorem slice_mid_ok {f fk fj : FE} {i j : Nat} (hf : f δ = .ok (.im (.str (tx l)))) (hk : fk δ = .ok (.im (.int (i : Nat)))) (hj : fj δ = .ok (.im (.int (j : Nat)))) (hl : l.length ≤ 1000) (h1 : i ≤ j) (h2 : j ≤ l.length) : fSlice f (oS fk) (oS fj) δ = .ok (.im (.str (tx ((l.drop i).take (j - i))))) := by
  unfold fSlice
  rw [hf, bind_ok]
  have e : oS fk δ = .ok (some ((i : Nat) : Int)) := by unfold oS; rw [hk]; rfl
  have e2 : oS fj δ = .ok (some ((j : Nat) : Int)) := by unfold oS; rw [hj]; rfl
  rw [e, bind_ok, e2, bind_ok]
  show gd (szOk (tx l).length) (Tr.ok (R.im (PyData.str (Txt.slice (tx l) (some ((i : Nat) : Int)) (some ((j : Nat) : Int)))))) = _
  rw [slice_ss h1 h2, tx_len]
  unfold szOk
  rw [decide_eq_true (by omega)]
  rfl
theorem eq_P {p q : List Nat × List Nat} : (decide (p.1 = q.1) && decide (p.2 = q.2)) = decide (p = q) := by
  rw [Bool.eq_iff_iff, Bool.and_eq_true, decide_eq_true_iff, decide_eq_true_iff, decide_eq_true_iff, Prod.ext_iff]
end
section
variable {M : Mc} {B z s q i j n m c k K N p : Nat} {l a b w x y u : List Nat} {Q : List En} {e : En} {δ : DEnv} {fa fb : FE} {PX : Xn → Prop}
theorem find_snoc {α : Type} {p : α → Bool} {l : List α} {x : α} : (l ++ [x]).find? p = match l.find? p with
    | some y => some y
    | none => if p x then some x else none := by
  rw [List.find?_append]
  cases l.find? p with
  | some y => rfl
  | none =>
    rw [List.find?_cons]
    cases p x <;> rfl
theorem sm_drop (h : Sm l) : Sm (l.drop n) := fun c hc => h c (List.mem_of_mem_drop hc)
theorem join_tx' : ∀ (cs : List Nat), Str.join (tx []) (cs.map fun c => tx [c]) = tx cs
  | [] => rfl
  | [c] => rfl
  | c :: c' :: r => by
    have e : ∀ a b : List Nat, tx a ++ tx [] ++ tx b = tx (a ++ b) := fun a b => by rw [tx_app, tx_app, List.append_nil]
    show tx [c] ++ tx [] ++ Str.join (tx []) ((c' :: r).map fun c => tx [c]) = _
    rw [join_tx' (c' :: r), e]
    rfl
theorem join_tx {cs : List Nat} : Txt.join (tx []) (cs.map fun c => tx [c]) = tx cs := (StrLaws.glued_eq_join _ _).trans (join_tx' cs)
theorem join_ok {cs : List Nat} (h : cs.length ≤ 1000) : gJoin (.im (.str (tx []))) [.ol (cs.map fun c => PyData.str (tx [c]))] = .ok (.im (.str (tx cs))) := by
  have e1 : strsOf (cs.map fun c => PyData.str (tx [c])) = some (cs.map fun c => tx [c]) := by
    have := strsOf_map (cs.map fun c => tx [c])
    rw [List.map_map] at this
    exact this
  show (ofO (strsOf _)).bind _ = _
  rw [e1]
  show gd (szOk _) _ = _
  have e2 : ((cs.map fun c => tx [c]).map (·.length)).sum = cs.length := by
    rw [List.map_map]
    have : ∀ l : List Nat, (l.map ((fun x : Str => x.length) ∘ fun c => tx [c])).sum = l.length := fun l => by
      induction l with
      | nil => rfl
      | cons a r ih => rw [List.map_cons, List.sum_cons, ih, List.length_cons]; show 1 + _ = _; omega
    exact this cs
  have h1 : szOk (((cs.map fun c => tx [c]).map (·.length)).sum + (cs.map fun c => tx [c]).length * (tx []).length) = true := by
    rw [e2]
    unfold szOk
    refine decide_eq_true ?_
    show cs.length + _ * 0 ≤ _
    omega
  rw [h1, join_tx]
  rfl
end
section
variable {M : Mc} {B z s q i j n m c k K N p : Nat} {l a b w x y u : List Nat} {Q : List En} {e : En} {δ : DEnv} {fa fb : FE} {PX : Xn → Prop}
def rD (Q : List En) : D := dKD (Q.map kv)
theorem unK_kv : unK ((Q.map kv).map fun kv => (keyD kv.1, kv.2)) = Q.map kv := by
  unfold unK
  induction Q with
  | nil => rfl
  | cons e r ih =>
    have e1 : (((e :: r).map kv).map fun kv => (keyD kv.1, kv.2)).filterMap (fun kv => (DW.keyOf kv.1).map fun k => (k, kv.2)) = kv e :: ((r.map kv).map fun kv => (keyD kv.1, kv.2)).filterMap (fun kv => (DW.keyOf kv.1).map fun k => (k, kv.2)) := rfl
    rw [e1, ih]
    rfl
theorem dgzF_ok (hn : (Q.map (·.1)).Nodup) (h : e ∈ Q) (ha : fa δ = .ok (.im (rD Q))) (hb : fb δ = .ok (.im (.int (e.1 : Nat)))) : fOp gDgz fa fb δ = .ok (.im (.str (tx e.2))) := by
  refine op_ok ha hb ?_
  unfold gDgz
  have h1 : dKz (.im (rD Q)) = some (Q.map kv) := by
    show (if isDK ((Q.map kv).map fun kv => (keyD kv.1, kv.2)) = true then some (unK ((Q.map kv).map fun kv => (keyD kv.1, kv.2))) else none) = _
    rw [unK_kv, if_pos (by cases Q <;> rfl)]
  have : getZ (R.im (rD Q)) (.im (.int (e.1 : Nat))) = some (some (.str (tx e.2))) := by
    unfold getZ
    rw [h1]
    show some (valD (Q.map kv) (.inl ((e.1 : Nat) : Int))) = _
    rw [val_some hn h]
  rw [this]
theorem keys_ok {f : FE} (hf : f δ = .ok (.im (rD Q))) : FW.iKeys f δ = .ok (Q.map st1) := by
  unfold FW.iKeys
  rw [hf]
  show Tr.ok ((dBody ((Q.map kv).map fun kv => (keyD kv.1, kv.2))).map (·.1)) = _
  have : dBody ((Q.map kv).map fun kv => (keyD kv.1, kv.2)) = (Q.map kv).map fun kv => (keyD kv.1, kv.2) := by cases Q <;> rfl
  rw [this, List.map_map, List.map_map]
  rfl
end
structure SatB {α : Type} (t : Tr α) (P : α → Prop) (PX : Xn → Prop) : Prop where
  h : t.sat P PX
section
variable {PX : Xn → Prop} {i n : Nat} {s t b : FS} {δ δ' : DEnv} {PF : Fl → Prop} {g : FG} {f : FE} {M : Mc} {Q : List En} {e : En}
theorem sb_sq (h : SatB (s δ) (fun o => ∃ δ', o = .nx δ' ∧ SatB (t δ') PF PX) PX) : SatB (sSq s t δ) PF PX := ⟨sat_sq (Tr.sat_of h.h fun o ⟨δ', e, p⟩ => ⟨δ', e, p.h⟩)⟩
theorem sb_sqo (h : s δ = .ok (.nx δ')) (p : SatB (t δ') PF PX) : SatB (sSq s t δ) PF PX := ⟨sat_sqo h p.h⟩
theorem sb_of {α : Type} {t : Tr α} {P P' : α → Prop} (h : SatB t P PX) (i : ∀ a, P a → P' a) : SatB t P' PX := ⟨Tr.sat_of h.h i⟩
theorem sb_ok {α : Type} {t : Tr α} {a : α} {P : α → Prop} (h : t = .ok a) (p : P a) : SatB t P PX := ⟨sat_ok h p⟩
theorem sb_set (h : SatB (f δ) (fun r => ∃ v, r.sv = some v ∧ PF (.nx (δ.set i (some v)))) PX) : SatB (sSetF i f δ) PF PX := ⟨sat_set h.h⟩
theorem sb_callC {faa : FA} {F : FD} {P : R → Prop} {rs : List R} (e : faa δ = .ok rs) (hp : (rs.all plainR && decide (rs.length = n)) = true) (h : SatB (F rs) P fun _ => False) : SatB (fCallC n F faa δ) P PX := ⟨sat_callC (sat_ok e ⟨hp, h.h⟩)⟩
theorem sb_for {fi : FI} {items : List D} (Inv : Nat → DEnv → Prop) (hi : fi δ = .ok items) (h0 : Inv 0 δ) (hs : ∀ i d δ, items[i]? = some d → Inv i δ → ∃ δ1, g d δ = .ok δ1 ∧ SatB (b δ1) (fun o => ∃ δ2, o = .nx δ2 ∧ Inv (i + 1) δ2) PX) (hp : ∀ δ', Inv items.length δ' → PF (.nx δ')) : SatB (sForF fi g b δ) PF PX :=
  ⟨sat_for Inv hi h0 (fun i d δ hd hI => let ⟨δ1, e, p⟩ := hs i d δ hd hI; ⟨δ1, e, p.h⟩) hp⟩
theorem take_find {p : En → Bool} (he : Q[i]? = some e) : (Q.take (i + 1)).find? p = match (Q.take i).find? p with
    | some y => some y
    | none => if p e then some e else none := by
  rw [List.take_succ, he]
  show ((Q.take i) ++ [e]).find? p = _
  rw [find_snoc]
  cases (Q.take i).find? p <;> rfl
end
end MK
set_option Elab.async false
set_option linter.all false
set_option maxRecDepth 100000
set_option maxHeartbeats 1000000
/-! dicts with tuple keys, dict comprehensions, in plain Lean -/
namespace MK
open PySem PySem.Spec L2 DW FW
section
variable {κT γ β : Type} [DecidableEq κT] [DecidableEq γ] {κ : γ → κT} {kf : β → γ} {ν : β → D} {Q : List β} {x : γ} {e : β} {δ : DEnv} {fa fb : FE} {N : List Str}
theorem valG (hκ : ∀ x y, κ x = κ y → x = y) : valD (Q.map fun b => (κ (kf b), ν b)) (κ x) = (Q.find? fun b => decide (kf b = x)).map ν := by
  induction Q with
  | nil => rfl
  | cons e r ih =>
    have h0 : valD ((e :: r).map fun b => (κ (kf b), ν b)) (κ x) = if kf e = x then some (ν e) else valD (r.map fun b => (κ (kf b), ν b)) (κ x) := by
      unfold valD
      rw [List.map_cons, List.find?_cons]
      by_cases h : kf e = x
      · simp [h]
      · have : ¬ κ (kf e) = κ x := fun z => h (hκ _ _ z)
        simp [h, this]
    rw [h0, ih, List.find?_cons]
    by_cases h : kf e = x
    · simp [h]
    · simp [h]
theorem valG_none (hκ : ∀ x y, κ x = κ y → x = y) (h : x ∉ Q.map kf) : valD (Q.map fun b => (κ (kf b), ν b)) (κ x) = none := by
  rw [valG hκ, Option.map_eq_none_iff, List.find?_eq_none]
  intro e he h'
  exact h (List.mem_map.mpr ⟨e, he, of_decide_eq_true h'⟩)
theorem valG_isSome (hκ : ∀ x y, κ x = κ y → x = y) : (valD (Q.map fun b => (κ (kf b), ν b)) (κ x)).isSome = decide (x ∈ Q.map kf) := by
  by_cases h : x ∈ Q.map kf
  · rw [decide_eq_true h, valG hκ, Option.isSome_map, List.find?_isSome]
    obtain ⟨e, he, rfl⟩ := List.mem_map.mp h
    exact ⟨e, he, decide_eq_true rfl⟩
  · rw [decide_eq_false h, valG_none hκ h]; rfl
theorem valG_some (hκ : ∀ x y, κ x = κ y → x = y) (hn : (Q.map kf).Nodup) (h : e ∈ Q) : valD (Q.map fun b => (κ (kf b), ν b)) (κ (kf e)) = some (ν e) := by
  rw [valG hκ]
  induction Q with
  | nil => cases h
  | cons f r ih =>
    rw [List.find?_cons]
    rw [List.map_cons, List.nodup_cons] at hn
    rcases List.mem_cons.mp h with rfl | h
    · rw [decide_eq_true rfl]; rfl
    · have : kf f ≠ kf e := fun z => hn.1 (List.mem_map.mpr ⟨e, h, z.symm⟩)
      rw [decide_eq_false this]
      exact ih hn.2 h
theorem putG_new (hκ : ∀ x y, κ x = κ y → x = y) (h : kf e ∉ Q.map kf) : putD (Q.map fun b => (κ (kf b), ν b)) (κ (kf e)) (ν e) = (Q ++ [e]).map fun b => (κ (kf b), ν b) := by
  rw [putD_new (valG_none hκ h), List.map_append]; rfl
end
/-! tuple keys of whole numbers -/
def kI (l : List Nat) : List Key := l.map fun i => .inl ((i : Nat) : Int)
theorem kI_inj : ∀ (x y : List Nat), kI x = kI y → x = y
  | [], [], _ => rfl
  | [], b :: y, h => by cases h
  | a :: x, [], h => by cases h
  | a :: x, b :: y, h => by
    unfold kI at h
    rw [List.map_cons, List.map_cons] at h
    injection h with h1 h2
    have h3 := Sum.inl.inj h1
    rw [kI_inj x y h2]
    congr 1
    omega
theorem keysOf_kI : ∀ (l : List Nat), DW.keysOf (l.map encI) = some (kI l)
  | [] => rfl
  | a :: l => by
    rw [List.map_cons, DW.keysOf, keysOf_kI l]
    rfl
section
variable {β : Type} {kf : β → List Nat} {ν : β → D} {Q : List β} {x : List Nat} {e : β} {δ : DEnv} {fa fb : FE}
def encS (l : List Nat) : D := .tuple (l.map encI)
/-- a dict with tuple keys, as told by its entries -/
def dct (kf : β → List Nat) (ν : β → D) (Q : List β) : List (List Key × D) := Q.map fun b => (kI (kf b), ν b)
theorem getZ_dct {r : R} (hr : dKz r = none) (hr2 : dTz r = some (dct kf ν Q)) : getZ r (.im (encS x)) = some ((Q.find? fun b => decide (kf b = x)).map ν) := by
  unfold getZ
  rw [hr, hr2]
  show (DW.keysOf (x.map encI)).map (valD (dct kf ν Q)) = _
  rw [keysOf_kI]
  show some (valD (dct kf ν Q) (kI x)) = _
  unfold dct
  rw [valG kI_inj]
theorem dinT_ok {neg : Bool} (ha : fa δ = .ok (.im (encS x))) (hb : fb δ = .ok (.bT (dct kf ν Q))) : fOp (gDinz neg) fa fb δ = .ok (.im (.bool (if neg then !decide (x ∈ Q.map kf) else decide (x ∈ Q.map kf)))) := by
  refine op_ok ha hb ?_
  unfold gDinz
  rw [getZ_dct (kf := kf) (ν := ν) (Q := Q) rfl rfl]
  have := valG_isSome (κ := kI) (kf := kf) (ν := ν) (Q := Q) (x := x) kI_inj
  rw [valG kI_inj] at this
  show Tr.ok (R.im (PyData.bool (if neg then !((Q.find? fun b => decide (kf b = x)).map ν).isSome else ((Q.find? fun b => decide (kf b = x)).map ν).isSome))) = _
  rw [this]
  cases neg
  · exact congrArg (fun b => Tr.ok (R.im (PyData.bool b))) (decide_eq_decide.mpr Iff.rfl)
  · exact congrArg (fun b => Tr.ok (R.im (PyData.bool (!b)))) (decide_eq_decide.mpr Iff.rfl)
theorem dgT_ok (hn : (Q.map kf).Nodup) (h : e ∈ Q) (ha : fa δ = .ok (.bT (dct kf ν Q))) (hb : fb δ = .ok (.im (encS (kf e)))) : fOp gDgz fa fb δ = .ok (.im (ν e)) := by
  refine op_ok ha hb ?_
  unfold gDgz
  rw [getZ_dct (kf := kf) (ν := ν) (Q := Q) rfl rfl]
  have := valG_some (κ := kI) (ν := ν) kI_inj hn h
  rw [valG kI_inj] at this
  rw [this]
theorem putT_ok (h : kf e ∉ Q.map kf) (hl : Q.length < 16777216) : putF (.oT (dct kf ν Q)) (encS (kf e)) (ν e) = .ok (.oT (dct kf ν (Q ++ [e]))) := by
  show (ofO (DW.keysOf ((kf e).map encI))).bind (fun ks => gd (decide ((dct kf ν Q).length < 16777216)) (Tr.ok (SV.oT (putD (dct kf ν Q) ks (ν e))))) = _
  rw [keysOf_kI]
  show gd (decide ((dct kf ν Q).length < 16777216)) (Tr.ok (SV.oT (putD (dct kf ν Q) (kI (kf e)) (ν e)))) = _
  unfold dct
  rw [List.length_map, decide_eq_true hl, putG_new kI_inj h]
  rfl
/-- a put at a key that is there, the value the same for all -/
theorem putT_same {d : D} (hν : ∀ b ∈ Q, ν b = d) (h : x ∈ Q.map kf) (hl : Q.length < 16777216) : putF (.oT (dct kf ν Q)) (encS x) d = .ok (.oT (dct kf ν Q)) := by
  show (ofO (DW.keysOf (x.map encI))).bind (fun ks => gd (decide ((dct kf ν Q).length < 16777216)) (Tr.ok (SV.oT (putD (dct kf ν Q) ks d)))) = _
  rw [keysOf_kI]
  show gd (decide ((dct kf ν Q).length < 16777216)) (Tr.ok (SV.oT (putD (dct kf ν Q) (kI x) d))) = _
  have e1 : (dct kf ν Q).length = Q.length := by unfold dct; rw [List.length_map]
  rw [e1, decide_eq_true hl]
  have : putD (dct kf ν Q) (kI x) d = dct kf ν Q := by
    unfold putD
    rw [if_pos]
    · unfold dct
      rw [List.map_map]
      refine List.map_congr_left fun b hb => ?_
      show (if kI (kf b) = kI x then (kI (kf b), d) else (kI (kf b), ν b)) = _
      rw [hν b hb]
      split <;> rfl
    · obtain ⟨b, hb, rfl⟩ := List.mem_map.mp h
      exact List.any_eq_true.mpr ⟨_, List.mem_map.mpr ⟨b, hb, rfl⟩, decide_eq_true rfl⟩
  rw [this]
  rfl
/-- a dict comprehension with tuple keys, no key told twice -/
theorem dcT_ok {α : Type} {ε : α → D} {κ2 : α → List Nat} {v : α → D} {g : FG} {fk fv : FE} {δ0 : DEnv} : ∀ (ts done : List α), ((done ++ ts).map κ2).Nodup → (done ++ ts).length ≤ 16777216 → (∀ t ∈ ts, ∃ δ1 r, g (ε t) δ0 = .ok δ1 ∧ fk δ1 = .ok (.im (encS (κ2 t))) ∧ fv δ1 = .ok r ∧ r.dat = some (v t)) →
    dcF g tYes fk fv δ0 (ts.map ε) (.oT (dct κ2 v done)) = .ok (.oT (dct κ2 v (done ++ ts)))
  | [], done, _, _, _ => by rw [List.map_nil, List.append_nil]; rfl
  | t :: ts, done, hn, hl, hs => by
    obtain ⟨δ1, r, e1, e2, e3, e4⟩ := hs t (List.mem_cons_self ..)
    have e5 : done ++ t :: ts = (done ++ [t]) ++ ts := by simp
    have hnot : κ2 t ∉ done.map κ2 := by
      rw [List.map_append, List.map_cons] at hn
      have := (List.nodup_append.mp hn).2.2
      exact fun h => this _ h _ (List.mem_cons_self ..) rfl
    have hlen : done.length < 16777216 := by rw [List.length_append, List.length_cons] at hl; omega
    rw [List.map_cons, dcF, e1]
    show (FW.calm (fk δ1)).bind _ = _
    rw [e2]
    show (FW.calm (fv δ1)).bind _ = _
    rw [e3]
    show (match r.dat with | some v => (putF _ _ v).bind _ | none => _) = _
    rw [e4]
    show (putF (.oT (dct κ2 v done)) (encS (κ2 t)) (v t)).bind _ = _
    rw [putT_ok (kf := κ2) (ν := v) (e := t) hnot hlen, e5]
    exact dcT_ok ts (done ++ [t]) (by rw [← e5]; exact hn) (by rw [← e5]; exact hl) fun t ht => hs t (List.mem_cons_of_mem _ ht)
end
/-- range(a, b) -/
theorem R2g_ok {δ : DEnv} {faa : FA} {a b : Nat} (h : faa δ = .ok [.im (.int (a : Nat)), .im (.int (b : Nat))]) (ha : a ≤ 100000) (hb : b ≤ 100000) : iR2 faa δ = .ok ((List.range' a (b - a)).map encI) := by
  unfold iR2
  rw [h, bind_ok]
  try dsimp only
  rw [rg_ok (m := a) (by omega), rg_ok (m := b) (by omega)]
  show Tr.ok (intsD (a : Int) ((b : Int) - (a : Int)).toNat) = _
  have e1 : ((b : Int) - (a : Int)).toNat = b - a := by omega
  rw [e1]
  unfold intsD
  rw [List.range'_eq_map_range, List.map_map]
  rfl
end MK
set_option Elab.async false
set_option linter.all false
set_option maxRecDepth 100000
set_option maxHeartbeats 4000000
/-! the walk over words in their order, in plain Lean -/
namespace BF
open MK (num num_snoc)
section
variable {α : Type} [DecidableEq α] {T : α → Nat → α} {K : Nat} {s : α} {z i j n c k : Nat} {l a b w x y : List Nat} {Q : List (α × List Nat)} {e : α × List Nat}
/-- where a word leads -/
def runT (T : α → Nat → α) (s : α) (l : List Nat) : α := l.foldl T s
theorem runT_snoc : runT T s (l ++ [c]) = T (runT T s l) c := by unfold runT; rw [List.foldl_append]; rfl
theorem runT_app : runT T s (a ++ b) = runT T (runT T s a) b := by unfold runT; rw [List.foldl_append]
/-- the states that count as found -/
def keys (z : Nat) (Q : List (α × List Nat)) : List α := (Q.drop z).map (·.1)
def exp1 (T : α → Nat → α) (z : Nat) (e : α × List Nat) (Q : List (α × List Nat)) (c : Nat) : List (α × List Nat) := if T e.1 c ∈ keys z Q then Q else Q ++ [(T e.1 c, e.2 ++ [c])]
/-- the first c children told -/
def expN (T : α → Nat → α) (z : Nat) (e : α × List Nat) (Q : List (α × List Nat)) : Nat → List (α × List Nat)
  | 0 => Q
  | c + 1 => exp1 T z e (expN T z e Q c) c
/-- after k entries -/
def Qk (T : α → Nat → α) (K z : Nat) (s : α) : Nat → List (α × List Nat)
  | 0 => [(s, [])]
  | k + 1 => match (Qk T K z s k)[k]? with
    | some e => expN T z e (Qk T K z s k) K
    | none => Qk T K z s k
/-- the invariant: k entries done, c children of the next one -/
structure Iv (T : α → Nat → α) (K z : Nat) (s : α) (Q : List (α × List Nat)) (k c : Nat) : Prop where
  z1 : z ≤ 1
  first : Q[0]? = some (s, [])
  nd : (keys z Q).Nodup
  run : ∀ e ∈ Q, e.1 = runT T s e.2 ∧ ∀ i ∈ e.2, i < K
  len : ∀ (i : Nat) (e : α × List Nat), Q[i]? = some e → e.2.length ≤ i
  ne : ∀ (i : Nat) (e : α × List Nat), Q[i]? = some e → 1 ≤ i → e.2 ≠ []
  inc : ∀ (i j : Nat) (e f : α × List Nat), i < j → Q[i]? = some e → Q[j]? = some f → num K e.2 < num K f.2
  top : ∀ (e f : α × List Nat), Q[k]? = some e → f ∈ Q → num K f.2 ≤ K * num K e.2 + c
  topE : Q[k]? = none → 0 = c ∧ Q.length = k
  clo : ∀ (i d : Nat) (e : α × List Nat), Q[i]? = some e → d < K → i < k ∨ (i = k ∧ d < c) → ∃ f ∈ Q.drop z, f.1 = T e.1 d ∧ num K f.2 ≤ K * num K e.2 + 1 + d
theorem Iv.start (hs : z ≤ 1) : Iv T K z s [(s, [])] 0 0 := by
  refine ⟨hs, rfl, ?_, ?_, ?_, ?_, ?_, ?_, ?_, ?_⟩
  · unfold keys
    have : z = 0 ∨ z = 1 := by omega
    rcases this with rfl | rfl <;> simp
  · intro e he
    rw [List.mem_singleton.mp he]
    exact ⟨rfl, fun i hi => by cases hi⟩
  · intro i e he
    cases i with
    | zero => cases he; exact Nat.le_refl _
    | succ i => cases he
  · intro i e he hi
    cases i with
    | zero => omega
    | succ i => cases he
  · intro i j e f hij he hf
    cases j with
    | zero => omega
    | succ j => cases hf
  · intro e f he hf
    cases he
    rw [List.mem_singleton.mp hf]
    exact Nat.zero_le _
  · intro h; cases h
  · intro i d e he hd h
    rcases h with h | h <;> omega
theorem Iv.step (v : Iv T K z s Q k c) (he : Q[k]? = some e) (hc : c < K) : Iv T K z s (exp1 T z e Q c) k (c + 1) := by
  have hk := (List.getElem?_eq_some_iff.mp he).1
  obtain ⟨r1, r2⟩ := v.run e (List.mem_of_getElem? he)
  have hz := v.z1
  unfold exp1
  by_cases h : T e.1 c ∈ keys z Q
  · rw [if_pos h]
    refine ⟨v.z1, v.first, v.nd, v.run, v.len, v.ne, v.inc, fun e' f h1 h2 => ?_, fun h' => ?_, fun i d e' h1 h2 h3 => ?_⟩
    · have := v.top e' f h1 h2; omega
    · rw [he] at h'; cases h'
    · by_cases h4 : i = k ∧ d = c
      · obtain ⟨rfl, rfl⟩ := h4
        rw [he] at h1
        cases h1
        obtain ⟨f, hf, ef⟩ := List.mem_map.mp h
        exact ⟨f, hf, ef, by have := v.top e f he (List.mem_of_mem_drop hf); omega⟩
      · exact v.clo i d e' h1 h2 (by omega)
  · rw [if_neg h]
    have hl : 0 < Q.length := by
      have := (List.getElem?_eq_some_iff.mp v.first).1
      omega
    have sp : ∀ (i : Nat) (f : α × List Nat), (Q ++ [(T e.1 c, e.2 ++ [c])])[i]? = some f → Q[i]? = some f ∨ (i = Q.length ∧ f = (T e.1 c, e.2 ++ [c])) := by
      intro i f hf
      by_cases hi : i < Q.length
      · rw [List.getElem?_append_left hi] at hf
        exact .inl hf
      · rw [List.getElem?_append_right (by omega)] at hf
        have : i - Q.length = 0 := by
          have := (List.getElem?_eq_some_iff.mp hf).1
          simpa using this
        rw [this] at hf
        exact .inr ⟨by omega, (Option.some.inj hf).symm⟩
    have kk : keys z (Q ++ [(T e.1 c, e.2 ++ [c])]) = keys z Q ++ [T e.1 c] := by
      unfold keys
      rw [List.drop_append_of_le_length (by omega), List.map_append]
      rfl
    have nn : ∀ f ∈ Q, num K f.2 < K * num K e.2 + 1 + c := fun f hf => by have := v.top e f he hf; omega
    refine ⟨v.z1, ?_, ?_, ?_, ?_, ?_, ?_, ?_, ?_, ?_⟩
    · rw [List.getElem?_append_left hl]; exact v.first
    · rw [kk]
      exact List.nodup_append.mpr ⟨v.nd, by simp, fun x hx y hy e' => h (by rw [← List.mem_singleton.mp hy, ← e']; exact hx)⟩
    · intro f hf
      rcases List.mem_append.mp hf with h1 | h1
      · exact v.run f h1
      · rw [List.mem_singleton.mp h1]
        refine ⟨?_, fun i hi => ?_⟩
        · show T e.1 c = runT T s (e.2 ++ [c])
          rw [runT_snoc, ← r1]
        · rcases List.mem_append.mp hi with h2 | h2
          · exact r2 i h2
          · rw [List.mem_singleton.mp h2]; exact hc
    · intro i f hf
      rcases sp i f hf with h1 | ⟨rfl, rfl⟩
      · exact v.len i f h1
      · have := v.len k e he
        show (e.2 ++ [c]).length ≤ _
        rw [List.length_append]
        show e.2.length + 1 ≤ _
        omega
    · intro i f hf hi
      rcases sp i f hf with h1 | ⟨rfl, rfl⟩
      · exact v.ne i f h1 hi
      · exact List.append_ne_nil_of_right_ne_nil _ (by simp)
    · intro i j f g hij hf hg
      rcases sp j g hg with h1 | ⟨rfl, rfl⟩
      · rcases sp i f hf with h2 | ⟨rfl, rfl⟩
        · exact v.inc i j f g hij h2 h1
        · have := (List.getElem?_eq_some_iff.mp h1).1
          omega
      · rcases sp i f hf with h2 | ⟨rfl, rfl⟩
        · show _ < num K (e.2 ++ [c])
          rw [num_snoc]
          exact nn f (List.mem_of_getElem? h2)
        · omega
    · intro e' f h1 h2
      rw [List.getElem?_append_left hk, he] at h1
      cases h1
      rcases List.mem_append.mp h2 with h3 | h3
      · have := v.top e f he h3; omega
      · rw [List.mem_singleton.mp h3]
        show num K (e.2 ++ [c]) ≤ _
        rw [num_snoc]; omega
    · intro h'
      rw [List.getElem?_append_left hk, he] at h'
      cases h'
    · intro i d e' h1 h2 h3
      have hd : ∀ f, f ∈ Q.drop z → f ∈ (Q ++ [(T e.1 c, e.2 ++ [c])]).drop z := fun f hf => by
        rw [List.drop_append_of_le_length (by omega)]
        exact List.mem_append_left _ hf
      rcases sp i e' h1 with h4 | ⟨rfl, rfl⟩
      · by_cases h5 : i = k ∧ d = c
        · obtain ⟨rfl, rfl⟩ := h5
          rw [he] at h4
          cases h4
          refine ⟨(T e.1 d, e.2 ++ [d]), ?_, rfl, ?_⟩
          · rw [List.drop_append_of_le_length (by omega)]
            exact List.mem_append_right _ (List.mem_singleton.mpr rfl)
          · show num K (e.2 ++ [d]) ≤ _
            rw [num_snoc]; exact Nat.le_refl _
        · obtain ⟨f, g1, g2, g3⟩ := v.clo i d e' h4 h2 (by omega)
          exact ⟨f, hd f g1, g2, g3⟩
      · omega
theorem Iv.stepN (v : Iv T K z s Q k 0) (he : Q[k]? = some e) : ∀ c, c ≤ K → Iv T K z s (expN T z e Q c) k c ∧ (expN T z e Q c)[k]? = some e
  | 0, _ => ⟨v, he⟩
  | c + 1, hc => by
    obtain ⟨h1, h2⟩ := Iv.stepN v he c (by omega)
    refine ⟨h1.step h2 (by omega), ?_⟩
    show (exp1 T z e (expN T z e Q c) c)[k]? = _
    unfold exp1
    split
    · exact h2
    · rw [List.getElem?_append_left (List.getElem?_eq_some_iff.mp h2).1]; exact h2
theorem Iv.next (v : Iv T K z s Q k K) (hK : 0 < K) (he : Q[k]? = some e) : Iv T K z s Q (k + 1) 0 := by
  refine ⟨v.z1, v.first, v.nd, v.run, v.len, v.ne, v.inc, fun e' f h1 h2 => ?_, fun h' => ?_, fun i d e' h1 h2 h3 => ?_⟩
  · have h3 := v.inc k (k + 1) e e' (Nat.lt_succ_self _) he h1
    have h4 := v.top e f he h2
    have h5 : K * (num K e.2 + 1) ≤ K * num K e'.2 := Nat.mul_le_mul_left _ h3
    rw [Nat.mul_add] at h5
    omega
  · have h1 := (List.getElem?_eq_some_iff.mp he).1
    have h2 := List.getElem?_eq_none_iff.mp h'
    exact ⟨rfl, by omega⟩
  · exact v.clo i d e' h1 h2 (by
      rcases h3 with h3 | h3
      · by_cases hi : i < k
        · exact .inl hi
        · exact .inr ⟨by omega, h2⟩
      · omega)
theorem Qk_iv (hz : z ≤ 1) (hK : 0 < K) : ∀ k, (k ≤ (Qk T K z s k).length → Iv T K z s (Qk T K z s k) k 0)
  | 0, _ => Iv.start hz
  | k + 1, h => by
    rw [Qk] at h ⊢
    cases he : (Qk T K z s k)[k]? with
    | none =>
      rw [he] at h
      have h1 := List.getElem?_eq_none_iff.mp he
      have : k + 1 ≤ (Qk T K z s k).length := h
      omega
    | some e =>
      have hk := (List.getElem?_eq_some_iff.mp he).1
      have v := Qk_iv hz hK k (by omega)
      obtain ⟨h1, h2⟩ := Iv.stepN v he K (Nat.le_refl _)
      exact h1.next hK h2
theorem nodup_sub : ∀ (U l : List α), l.Nodup → (∀ x ∈ l, x ∈ U) → l.length ≤ U.length
  | [], l, _, h => by
    cases l with
    | nil => exact Nat.le_refl _
    | cons x r => exact absurd (h x (List.mem_cons_self ..)) (fun z => by cases z)
  | u :: U, l, hd, h => by
    have h1 := nodup_sub U (l.erase u) (hd.erase u) fun x hx => by
      have h2 := (List.Nodup.mem_erase_iff hd).mp hx
      exact (List.mem_cons.mp (h x h2.2)).elim (fun z => absurd z h2.1) id
    by_cases hu : u ∈ l
    · rw [List.length_erase_of_mem hu] at h1
      rw [List.length_cons]
      omega
    · rw [List.erase_of_not_mem hu] at h1
      rw [List.length_cons]
      omega
/-- few entries -/
theorem Iv.few (v : Iv T K z s Q k c) {U : List α} (hU : ∀ w : List Nat, (∀ i ∈ w, i < K) → runT T s w ∈ U) : Q.length ≤ U.length + z := by
  have h1 := nodup_sub U (keys z Q) v.nd fun x hx => by
    obtain ⟨e, he, rfl⟩ := List.mem_map.mp hx
    obtain ⟨g1, g2⟩ := v.run e (List.mem_of_mem_drop he)
    rw [g1]
    exact hU _ g2
  unfold keys at h1
  rw [List.length_map, List.length_drop] at h1
  omega
/-- at the end: each word's state is found (the empty word's is the first) -/
theorem Iv.all (v : Iv T K 0 s Q k 0) (hk : Q.length = k) : ∀ u : List Nat, (∀ i ∈ u, i < K) → ∃ f ∈ Q, f.1 = runT T s u ∧ num K f.2 ≤ num K u := by
  have key : ∀ (n : Nat) (u : List Nat), u.length = n → (∀ i ∈ u, i < K) → ∃ f ∈ Q, f.1 = runT T s u ∧ num K f.2 ≤ num K u := by
    intro n
    induction n with
    | zero =>
      intro u h1 _
      rw [List.length_eq_zero_iff.mp h1]
      exact ⟨_, List.mem_of_getElem? v.first, rfl, Nat.le_refl _⟩
    | succ n ih =>
      intro u h1 h3
      have h2 : u ≠ [] := fun e => by rw [e] at h1; cases h1
      obtain ⟨x, d, rfl⟩ : ∃ x d, u = x ++ [d] := ⟨u.dropLast, u.getLast h2, (List.dropLast_concat_getLast h2).symm⟩
      have hd : d < K := h3 d (List.mem_append_right _ (List.mem_singleton.mpr rfl))
      have hx : ∀ i ∈ x, i < K := fun i hi => h3 i (List.mem_append_left _ hi)
      rw [List.length_append] at h1
      have h1 : x.length + 1 = n + 1 := h1
      obtain ⟨f, hf, ef, nf⟩ := ih x (by omega) hx
      obtain ⟨i, hi, ei⟩ := List.mem_iff_getElem.mp hf
      obtain ⟨g, g1, g2, g3⟩ := v.clo i d f (by rw [List.getElem?_eq_getElem hi, ei]) hd (.inl (by omega))
      refine ⟨g, g1, by rw [g2, ef, runT_snoc], ?_⟩
      rw [num_snoc]
      have : K * num K f.2 ≤ K * num K x := Nat.mul_le_mul_left _ nf
      omega
  exact fun u h3 => key u.length u rfl h3
/-- at the end: each word's state is found by a word not behind it -/
theorem Iv.least (v : Iv T K 1 s Q k 0) (hk : Q.length = k) : ∀ u : List Nat, u ≠ [] → (∀ i ∈ u, i < K) → ∃ f ∈ Q.drop 1, f.1 = runT T s u ∧ num K f.2 ≤ num K u := by
  have key : ∀ (n : Nat) (u : List Nat), u.length = n → u ≠ [] → (∀ i ∈ u, i < K) → ∃ f ∈ Q.drop 1, f.1 = runT T s u ∧ num K f.2 ≤ num K u := by
    intro n
    induction n with
    | zero => intro u h1 h2 _; exact absurd (List.length_eq_zero_iff.mp h1) h2
    | succ n ih =>
      intro u h1 h2 h3
      obtain ⟨x, d, rfl⟩ : ∃ x d, u = x ++ [d] := ⟨u.dropLast, u.getLast h2, (List.dropLast_concat_getLast h2).symm⟩
      have hd : d < K := h3 d (List.mem_append_right _ (List.mem_singleton.mpr rfl))
      have hx : ∀ i ∈ x, i < K := fun i hi => h3 i (List.mem_append_left _ hi)
      rw [List.length_append] at h1
      have h1 : x.length + 1 = n + 1 := h1
      obtain ⟨f, hf, ef, nf⟩ : ∃ f ∈ Q, f.1 = runT T s x ∧ num K f.2 ≤ num K x := by
        by_cases h0 : x = []
        · subst h0
          exact ⟨_, List.mem_of_getElem? v.first, rfl, Nat.le_refl _⟩
        · obtain ⟨f, g1, g2, g3⟩ := ih x (by omega) h0 hx
          exact ⟨f, List.mem_of_mem_drop g1, g2, g3⟩
      obtain ⟨i, hi, ei⟩ := List.mem_iff_getElem.mp hf
      obtain ⟨g, g1, g2, g3⟩ := v.clo i d f (by rw [List.getElem?_eq_getElem hi, ei]) hd (.inl (by omega))
      refine ⟨g, g1, by rw [g2, ef, runT_snoc], ?_⟩
      rw [num_snoc]
      have : K * num K f.2 ≤ K * num K x := Nat.mul_le_mul_left _ nf
      omega
  exact fun u h2 h3 => key u.length u rfl h2 h3
/-- the end is come to -/
structure KEnd (T : α → Nat → α) (K z : Nat) (s : α) (N k : Nat) : Prop where
  le : k ≤ N + z
  len : (Qk T K z s k).length = k
  iv : Iv T K z s (Qk T K z s k) k 0
  lt : ∀ j, j < k → j < (Qk T K z s j).length
theorem kEnd (hK : 0 < K) (hz : z ≤ 1) {U : List α} (hU : ∀ w : List Nat, (∀ i ∈ w, i < K) → runT T s w ∈ U) : ∃ k, KEnd T K z s U.length k := by
  have key : ∀ m, (∃ k, k ≤ m ∧ (Qk T K z s k).length = k ∧ ∀ j, j < k → j < (Qk T K z s j).length) ∨ ∀ j, j ≤ m → j < (Qk T K z s j).length := by
    intro m
    induction m with
    | zero => exact .inr fun j hj => by rw [Nat.le_zero.mp hj]; exact Nat.one_pos
    | succ m ih =>
      rcases ih with ⟨k, h1, h2, h3⟩ | h1
      · exact .inl ⟨k, by omega, h2, h3⟩
      · have hm := h1 m (Nat.le_refl _)
        have g : m + 1 ≤ (Qk T K z s (m + 1)).length := by
          have v := Qk_iv (T := T) (s := s) hz hK m (by omega)
          rw [Qk, List.getElem?_eq_getElem hm]
          have := (Iv.stepN v (List.getElem?_eq_getElem hm) K (Nat.le_refl _)).2
          exact (List.getElem?_eq_some_iff.mp this).1
        by_cases h2 : (Qk T K z s (m + 1)).length = m + 1
        · exact .inl ⟨m + 1, Nat.le_refl _, h2, fun j hj => h1 j (by omega)⟩
        · exact .inr fun j hj => by
            by_cases e : j = m + 1
            · subst e; omega
            · exact h1 j (by omega)
  rcases key (U.length + z) with ⟨k, h1, h2, h3⟩ | h1
  · exact ⟨k, h1, h2, Qk_iv hz hK k (by omega), h3⟩
  · have h2 := h1 _ (Nat.le_refl _)
    have := (Qk_iv (T := T) (s := s) hz hK (U.length + z) (by omega)).few hU
    omega
theorem Qk_step (he : (Qk T K z s k)[k]? = some e) : Qk T K z s (k + 1) = expN T z e (Qk T K z s k) K := by rw [Qk, he]
end
end BF
set_option Elab.async false
set_option linter.all false
set_option maxRecDepth 100000
set_option maxHeartbeats 4000000
namespace K36
open PySem PySem.Spec L2 DW FW
def top (i : Nat) : Stmt := PySem.Challenge.pw_grammarhall_k36_whole_words_that_reset.main.body.getD i (.Pass ⟨0, 0, 0, 0⟩)
abbrev s_pair_after : Stmt := top 1
abbrev n_pair_after : List Str := ["machine", "pair", "place", "row", "state"]
def B_pair_after : FS := (sSq (sSetF 3 (fCall gSortD (aCons (fLc (iT (fV 1)) (gN 4) tYes (fOp gIx (fOp gIx (fOp gIx (fV 0) (fC (.int 1))) (fV 4)) (fV 2)) [4]) aNil)))
 (sRetF (fTup (aFCons (fOp gIx (fV 3) (fC (.int 0))) (aFCons (fOp gIx (fV 3) (fC (.int 1))) aNil)))))
def F_pair_after : FD := fnF n_pair_after B_pair_after
abbrev s__law_rank : Stmt := top 9
abbrev n__law_rank : List Str := ["words", "size", "word"]
def B__law_rank : FS := (sRetF (fLc (iLb (fCall gSortD (aCons (fLc (iL (fV 0)) (gN 2) tYes (fTup (aCons (fCall gLen (aCons (fV 2) aNil)) (aCons (fV 2) aNil))) [2]) aNil))) (gTup 2 (gsCons (gN 1) (gsCons (gN 2) gsNil))) tYes (fV 2) [1, 2]))
def F__law_rank : FD := fnF n__law_rank B__law_rank
abbrev s__law_never : Stmt := top 11
abbrev n__law_never : List Str := ["machine", "pairs", "many", "known", "p", "q", "pair", "k"]
def B__law_never : FS := (sSq (sSetF 2 (fCall gLen (aCons (fOp gIx (fV 0) (fC (.int 1))) aNil)))
 (sSq (sIfF (tOrF (tB (fOp gEq (fCall gLen (aCons (fV 1) aNil)) (fC (.int 0)))) (tB (fCall gAny (aCons (fLc (iT (fV 1)) (gTup 2 (gsCons (gN 4) (gsCons (gN 5) gsNil))) tYes (fNot (fAnd (fChain gLe gLt (fC (.int 0)) (fV 4) (fV 2)) (fAnd (fChain gLe gLt (fC (.int 0)) (fV 5) (fV 2)) (fOp gNe (fV 4) (fV 5))))) [4, 5]) aNil)))) (sRetF (fC (.bool false))) sNx)
 (sSq (sSetF 3 (fLc (iT (fV 1)) (gN 6) tYes (fCall gTupOf (aCons (fCall gSortTD (aCons (fV 6) aNil)) aNil)) [6]))
 (sSq (sForF (iT (fV 1)) (gTup 2 (gsCons (gN 4) (gsCons (gN 5) gsNil))) (sIfF (tB (fCall gAny (aCons (fLc (iR1 (aCons (fCall gLen (aCons (fOp gIx (fV 0) (fC (.int 0))) aNil)) aNil)) (gN 7) tYes (fOp (gInL true) (fCall gTupOf (aCons (fCall gSortD (aCons (fLst (aFCons (fOp gIx (fOp gIx (fOp gIx (fV 0) (fC (.int 1))) (fV 4)) (fV 7)) (aFCons (fOp gIx (fOp gIx (fOp gIx (fV 0) (fC (.int 1))) (fV 5)) (fV 7)) aNil))) aNil)) aNil)) (fV 3)) [7]) aNil))) (sRetF (fC (.bool false))) sNx))
 (sRetF (fC (.bool true)))))))
def F__law_never : FD := fnF n__law_never B__law_never
abbrev s_merging_pairs : Stmt := top 2
abbrev n_merging_pairs : List Str := ["machine", "many", "pairs", "found", "before", "pair", "after", "p", "q", "place"]
def B_merging_pairs : FS := (sSq (sSetF 1 (fCall gLen (aCons (fOp gIx (fV 0) (fC (.int 1))) aNil)))
 (sSq (sSetF 2 (fLc2 (iR1 (aCons (fV 1) aNil)) (gN 7) (iR2 (aCons (fOp gAdd (fV 7) (fC (.int 1))) (aCons (fV 1) aNil))) (gN 8) tYes (fTup (aCons (fV 7) (aCons (fV 8) aNil))) [7, 8] [8]))
 (sSq (sSetF 3 fNewT)
 (sSq (sSetF 4 (fC (.int (-1))))
 (sSq (sWhF (tB (fOp gLt (fV 4) (fCall gLenT (aCons (fV 3) aNil)))) (sSq (sSetF 4 (fCall gLenT (aCons (fV 3) aNil)))
 (sFrzDF 2 (sForF (iL (fV 2)) (gN 5) (sSq (sSetF 6 (fLc (iR1 (aCons (fCall gLen (aCons (fOp gIx (fV 0) (fC (.int 0))) aNil)) aNil)) (gN 9) tYes (fCallC 3 F_pair_after (aCons (fV 0) (aCons (fV 5) (aCons (fV 9) aNil)))) [9]))
 (sIfF (tB (fCall gAny (aCons (fLc (iLb (fV 6)) (gTup 2 (gsCons (gN 7) (gsCons (gN 8) gsNil))) tYes (fOr (fOp gEq (fV 7) (fV 8)) (fOp (gDinz false) (fTup (aCons (fV 7) (aCons (fV 8) aNil))) (fV 3))) [7, 8]) aNil))) (sPutF 3 (fV 5) (fC (.bool true))) sNx))))))
 (sRetF (fDc (.oT []) (iL (fV 2)) (gN 5) tYes (fV 5) (fOp (gDinz false) (fV 5) (fV 3)) [5])))))))
def F_merging_pairs : FD := fnF n_merging_pairs B_merging_pairs
abbrev s_takes_never : Stmt := top 4
abbrev n_takes_never : List Str := ["machine", "pairs", "many", "known", "pair", "place", "p", "q"]
def B_takes_never : FS := (sSq (sSetF 2 (fCall gLen (aCons (fOp gIx (fV 0) (fC (.int 1))) aNil)))
 (sSq (sIfF (tOrF (tNotF (tTruF (fV 1))) (tNotF (tB (fCall gAll (aCons (fLc (iT (fV 1)) (gTup 2 (gsCons (gN 6) (gsCons (gN 7) gsNil))) tYes (fAnd (fChain gLe gLt (fC (.int 0)) (fV 6) (fV 2)) (fAnd (fChain gLe gLt (fC (.int 0)) (fV 7) (fV 2)) (fOp gNe (fV 6) (fV 7)))) [6, 7]) aNil))))) (sRetF (fC (.bool false))) sNx)
 (sSq (sSetF 3 (fDc (.oT []) (iT (fV 1)) (gN 4) tYes (fCall gTupOf (aCons (fCall gSortTD (aCons (fV 4) aNil)) aNil)) (fC (.bool true)) [4]))
 (sRetF (fCall gAll (aCons (fLc2 (iT (fV 1)) (gN 4) (iR1 (aCons (fCall gLen (aCons (fOp gIx (fV 0) (fC (.int 0))) aNil)) aNil)) (gN 5) tYes (fOp (gDinz false) (fCallC 3 F_pair_after (aCons (fV 0) (aCons (fV 4) (aCons (fV 5) aNil)))) (fV 3)) [4, 5] [5]) aNil))))))
def F_takes_never : FD := fnF n_takes_never B_takes_never
abbrev s__law_pick : Stmt := top 8
abbrev n__law_pick : List Str := ["d", "menu"]
def B__law_pick : FS := (sRetF (fOp gIx (fV 1) (fCallC 2 F_take (aCons (fV 0) (aCons (fCall gLen (aCons (fV 1) aNil)) aNil)))))
def F__law_pick : FD := fnF n__law_pick B__law_pick
abbrev s_reset_word : Stmt := top 3
abbrev n_reset_word : List Str := ["machine", "apart", "start", "words", "waiting", "states", "place", "sign", "after", "pair", "is_merging", "state"]
def B_reset_word : FS := (sSq (sSetF 1 (fCall gSortD (aCons (fLc (iItemsT (fFrz (fCallC 1 F_merging_pairs (aCons (fV 0) aNil)))) (gTup 2 (gsCons (gN 9) (gsCons (gN 10) gsNil))) (tNotF (tTruF (fV 10))) (fV 9) [9, 10]) aNil)))
 (sSq (sIfF (tTruF (fV 1)) (sRetF (fTupStar (fC (.str "never")) (fOp gIx (fV 1) (fC (.int 0))))) sNx)
 (sSq (sSetF 2 (fTupR1 (fCall gLen (aCons (fOp gIx (fV 0) (fC (.int 1))) aNil))))
 (sSq (sSetF 3 (fDispT (fV 2) (fC (.str ""))))
 (sSq (sSetF 4 (fLst (aCons (fV 2) aNil)))
 (sSq (sWhF (tTruF (fV 4)) (sSq (sPop0F 4 (gN 5))
 (sSq (sIfF (tB (fOp gEq (fCall gLen (aCons (fV 5) aNil)) (fC (.int 1)))) (sRetF (fTup (aCons (fC (.str "word")) (aCons (fOp gDgz (fV 3) (fV 5)) aNil)))) sNx)
 (sForF (iEG (aCons (fOp gIx (fV 0) (fC (.int 0))) aNil)) (gTup 2 (gsCons (gN 6) (gsCons (gN 7) gsNil))) (sSq (sSetF 8 (fCall gTupOf (aCons (fCall gSortDI (aCons (fDc (.oK []) (iT (fV 5)) (gN 11) tYes (fOp gIx (fOp gIx (fOp gIx (fV 0) (fC (.int 1))) (fV 11)) (fV 6)) (fC (.bool true)) [11]) aNil)) aNil)))
 (sIfF (tB (fOp (gDinz true) (fV 8) (fV 3))) (sSq (sPutF 3 (fV 8) (fOp gAdd (fOp gDgz (fV 3) (fV 5)) (fV 7)))
 (sAppF 4 (fV 8))) sNx))))))
 (sRetF (fTup (aCons (fC (.str "never")) (aCons (fC (.int 0)) (aCons (fC (.int 0)) aNil)))))))))))
def F_reset_word : FD := fnF n_reset_word B_reset_word
abbrev s__law_machine : Stmt := top 10
abbrev n__law_machine : List Str := ["d", "most", "alphabet", "many", "table", "state", "sign"]
def B__law_machine : FS := (sSq (sSetF 2 (fCallC 2 F__law_pick (aCons (fV 0) (aFCons (fLst (aCons (fC (.str "ab")) (aCons (fC (.str "ab")) (aCons (fC (.str "a")) (aCons (fC (.str "abc")) aNil))))) aNil))))
 (sSq (sSetF 3 (fOp gAdd (fC (.int 1)) (fCallC 2 F_take (aCons (fV 0) (aCons (fV 1) aNil)))))
 (sSq (sSetF 4 (fCall gTupOf (aCons (fLc (iR1 (aCons (fV 3) aNil)) (gN 5) tYes (fCall gTupOf (aCons (fLc (iS (fV 2)) (gN 6) tYes (fCallC 2 F_take (aCons (fV 0) (aCons (fV 3) aNil))) [6]) aNil)) [5]) aNil)))
 (sRetF (fTup (aCons (fV 2) (aCons (fV 4) (aCons (fCall gTupOf (aCons (fLc (iR1 (aCons (fV 3) aNil)) (gN 5) (tB (fOp gEq (fCallC 2 F_take (aCons (fV 0) (aCons (fC (.int 3)) aNil))) (fC (.int 0)))) (fV 5) [5]) aNil)) aNil))))))))
def F__law_machine : FD := fnF n__law_machine B__law_machine
abbrev s_law : Stmt := top 12
abbrev n_law : List Str := ["script", "d", "machine", "many", "left", "row", "words", "order", "at", "k", "after", "ones", "told", "pairs", "p", "good", "turn", "q", "apart", "own", "right", "more", "pair", "states", "state", "a", "b"]
def B_law : FS := (sSq (sSetF 2 (fCallC 2 F__law_machine (aCons (fV 1) (aCons (fC (.int 5)) aNil))))
 (sSq (sSetF 3 (fCall gLen (aCons (fOp gIx (fV 2) (fC (.int 1))) aNil)))
 (sSq (sIfF (tB (fOp gEq (fCallC 2 F_take (aCons (fV 1) (aCons (fC (.int 2)) aNil))) (fC (.int 0)))) (sSq (sSetF 4 (fLstR1 (fV 3)))
 (sSq (sSetF 5 (fLst aNil))
 (sSq (sWhF (tB (fOp gGt (fCall gLen (aCons (fV 4) aNil)) (fC (.int 0)))) (sAppPopF 5 4 (fCallC 2 F_take (aCons (fV 1) (aCons (fCall gLen (aCons (fV 4) aNil)) aNil)))))
 (sSetF 2 (fTup (aCons (fOp gIx (fV 2) (fC (.int 0))) (aCons (fCall gTupOf (aCons (fLc (iR1 (aCons (fV 3) aNil)) (gN 24) tYes (fOp gAdd (fTup (aFCons (fOp gIx (fV 5) (fV 24)) aNil)) (fSlice (fOp gIx (fOp gIx (fV 2) (fC (.int 1))) (fV 24)) (oS (fC (.int 1))) oN)) [24]) aNil)) (aFCons (fOp gIx (fV 2) (fC (.int 2))) aNil)))))))) sNx)
 (sSq (sSetF 6 (fDispT (fTupR1 (fV 3)) (fC (.str ""))))
 (sSq (sSetF 7 (fLst (aCons (fTupR1 (fV 3)) aNil)))
 (sSq (sSetF 8 (fC (.int 0)))
 (sSq (sWhF (tB (fOp gLt (fV 8) (fCall gLen (aCons (fV 7) aNil)))) (sSq (sForF (iR1 (aCons (fCall gLen (aCons (fOp gIx (fV 2) (fC (.int 0))) aNil)) aNil)) (gN 9) (sSq (sSetF 10 (fCall gTupOf (aCons (fSortSetI (fLc (iT (fOp gIx (fV 7) (fV 8))) (gN 24) tYes (fOp gIx (fOp gIx (fOp gIx (fV 2) (fC (.int 1))) (fV 24)) (fV 9)) [24])) aNil)))
 (sIfF (tB (fOp (gDinz true) (fV 10) (fV 6))) (sSq (sPutF 6 (fV 10) (fOp gAdd (fOp gDgz (fV 6) (fOp gIx (fV 7) (fV 8))) (fOp gIx (fOp gIx (fV 2) (fC (.int 0))) (fV 9))))
 (sAppF 7 (fV 10))) sNx)))
 (sSetF 8 (fOp gAdd (fV 8) (fC (.int 1))))))
 (sSq (sSetF 11 (fCallC 1 F__law_rank (aFCons (fLc (iLb (fV 7)) (gN 23) (tB (fOp gEq (fCall gLen (aCons (fV 23) aNil)) (fC (.int 1)))) (fOp gDgz (fV 6) (fV 23)) [23]) aNil)))
 (sSq (sSetF 12 (fCallC 1 F_reset_word (aCons (fV 2) aNil)))
 (sSq (sSetF 13 (fLst aNil))
 (sSq (sForF (iR1 (aCons (fV 3) aNil)) (gN 14) (sExtF 13 (fLc (iR2 (aCons (fOp gAdd (fV 14) (fC (.int 1))) (aCons (fV 3) aNil))) (gN 17) tYes (fTup (aCons (fV 14) (aCons (fV 17) aNil))) [17])))
 (sSq (sSetF 15 (fLst aNil))
 (sSq (sForF (iR1 (aCons (fOp gAdd (fCall gLen (aCons (fV 13) aNil)) (fC (.int 1))) aNil)) (gN 16) (sFrzDF 13 (sForF (iL (fV 13)) (gTup 2 (gsCons (gN 14) (gsCons (gN 17) gsNil))) (sSq (sSetF 10 (fLc (iR1 (aCons (fCall gLen (aCons (fOp gIx (fV 2) (fC (.int 0))) aNil)) aNil)) (gN 9) tYes (fCall gTupOf (aCons (fCall gSortD (aCons (fLst (aFCons (fOp gIx (fOp gIx (fOp gIx (fV 2) (fC (.int 1))) (fV 14)) (fV 9)) (aFCons (fOp gIx (fOp gIx (fOp gIx (fV 2) (fC (.int 1))) (fV 17)) (fV 9)) aNil))) aNil)) aNil)) [9]))
 (sIfF (tAndF (tB (fCall gAny (aCons (fLc (iLb (fV 10)) (gTup 2 (gsCons (gN 25) (gsCons (gN 26) gsNil))) tYes (fOr (fOp gEq (fV 25) (fV 26)) (fOp (gInL false) (fTup (aCons (fV 25) (aCons (fV 26) aNil))) (fV 15))) [25, 26]) aNil))) (tB (fOp (gInL true) (fTup (aCons (fV 14) (aCons (fV 17) aNil))) (fV 15)))) (sAppF 15 (fTup (aCons (fV 14) (aCons (fV 17) aNil)))) sNx)))))
 (sSq (sSetF 18 (fLc (iL (fV 13)) (gN 22) (tB (fOp (gInL true) (fV 22) (fV 15))) (fV 22) [22]))
 (sSq (sIfF (tOrF (tB (fOp gNe (fV 12) (fIf (tB (fOp gGt (fCall gLen (aCons (fV 11) aNil)) (fC (.int 0)))) (fTup (aCons (fC (.str "word")) (aFCons (fOp gIx (fV 11) (fC (.int 0))) aNil))) (fOp gAdd (fTup (aCons (fC (.str "never")) aNil)) (fOp gIx (fV 18) (fC (.int 0))))))) (tB (fOp gNe (fOp gGt (fCall gLen (aCons (fV 11) aNil)) (fC (.int 0))) (fOp gEq (fCall gLen (aCons (fV 18) aNil)) (fC (.int 0)))))) (sRetF (fC (.bool false))) sNx)
 (sSq (sSetF 19 (fCall gTupOf (aCons (fV 18) aNil)))
 (sSq (sForF (iR1 (aCons (fC (.int 6)) aNil)) (gN 16) (sSq (sSetF 20 (fCallC 2 F__law_never (aCons (fV 2) (aCons (fV 19) aNil))))
 (sSq (sIfF (tOrF (tB (fOp gNe (fCallC 2 F_takes_never (aCons (fV 2) (aCons (fV 19) aNil))) (fV 20))) (tAndF (tB (fV 20)) (tB (fOp gGt (fCall gLen (aCons (fV 11) aNil)) (fC (.int 0)))))) (sRetF (fC (.bool false))) sNx)
 (sSq (sSetF 8 (fCallC 2 F_take (aCons (fV 1) (aCons (fOp gAdd (fCall gLen (aCons (fV 19) aNil)) (fC (.int 1))) aNil))))
 (sSq (sSetF 21 (fTup (aCons (fCallC 2 F_take (aCons (fV 1) (aCons (fOp gAdd (fV 3) (fC (.int 1))) aNil))) (aCons (fCallC 2 F_take (aCons (fV 1) (aCons (fOp gAdd (fV 3) (fC (.int 1))) aNil))) aNil))))
 (sSetF 19 (fCallC 2 F__law_pick (aCons (fV 1) (aFCons (fLst (aCons (fOp gAdd (fSlice (fV 19) oN (oS (fV 8))) (fSlice (fV 19) (oS (fOp gAdd (fV 8) (fC (.int 1)))) oN)) (aCons (fOp gAdd (fOp gAdd (fSlice (fV 19) oN (oS (fV 8))) (fTup (aCons (fV 21) aNil))) (fSlice (fV 19) (oS (fV 8)) oN)) (aCons (fCall gTupOf (aCons (fV 18) aNil)) (aCons (fCall gTupOf (aCons (fLc (iT (fV 19)) (gTup 2 (gsCons (gN 14) (gsCons (gN 17) gsNil))) tYes (fTup (aCons (fV 17) (aCons (fV 14) aNil))) [14, 17]) aNil)) aNil))))) aNil)))))))))
 (sRetF (fOr (fOp gEq (fCall gLen (aCons (fV 18) aNil)) (fC (.int 0))) (fOp (gIsB false) (fCallC 2 F_takes_never (aCons (fV 2) (aCons (fCall gTupOf (aCons (fV 18) aNil)) aNil))) (fC (.bool true))))))))))))))))))))))
def F_law : Tr R := lawF 27 B_law
end K36
set_option Elab.async false
set_option linter.all false
set_option maxRecDepth 100000
set_option maxHeartbeats 1000000
namespace K36
open PySem PySem.Spec L2 DW FW MK
open PySem.W (alike dataLt dataLe AllAlike)
theorem ms2 {α : Type} {le : α → α → Bool} {a b : α} : [a, b].mergeSort le = if le a b then [a, b] else [b, a] := by
  cases h : le a b <;> simp [List.mergeSort, List.MergeSort.Internal.splitInTwo, List.merge, h]
theorem dataLeD_int (a b : Int) : dataLe false (fun d : D => d) (.int a) (.int b) = decide (a ≤ b) := dataLe_int a b
section
variable {M : Mc} {B p q n k K a b s i j : Nat} {δ : DEnv} {fa fb : FE} {PX : Xn → Prop}
theorem alike_int {a b : Int} : alike (.int a) (.int b) = true := by simp [PySem.W.alike]
theorem sortB2 : sortB [encI a, encI b] = true := by
  unfold sortB encI
  have h : alikeB [PyData.int (a : Int), PyData.int (b : Int)] = true := by unfold alikeB; simp [alike_int]
  rw [h]
  simp [isPlain1, PyData.canLayAll0, PyData.canLay0, PyData.depth]
theorem sort2D : gSortD [.ol [encI a, encI b]] = .ok (.ol [encI (min a b), encI (max a b)]) := by
  show gd (sortB [encI a, encI b]) (Tr.ok (R.ol ([encI a, encI b].mergeSort (dataLe false fun d => d)))) = _
  rw [sortB2, ms2]
  have h : dataLe false (fun d : D => d) (encI a) (encI b) = decide (a ≤ b) := (dataLeD_int _ _).trans (decide_eq_decide.mpr Int.ofNat_le)
  rw [h]
  by_cases hab : a ≤ b
  · rw [decide_eq_true hab, if_pos rfl, Nat.min_eq_left hab, Nat.max_eq_right hab]; rfl
  · rw [decide_eq_false hab, if_neg Bool.false_ne_true, Nat.min_eq_right (by omega), Nat.max_eq_left (by omega)]; rfl
/-- sorted(pair), the pair a tuple -/
theorem sort2T : gSortTD [.im (.tuple [encI a, encI b])] = .ok (.ol [encI (min a b), encI (max a b)]) := by
  show Tr.ok (R.ol ((sortI [(a : Int), (b : Int)]).map PyData.int)) = _
  unfold sortI
  rw [ms2]
  by_cases hab : a ≤ b
  · rw [if_pos (decide_eq_true (Int.ofNat_le.mpr hab)), Nat.min_eq_left hab, Nat.max_eq_right hab]; rfl
  · rw [if_neg (fun z => hab (Int.ofNat_le.mp (of_decide_eq_true z))), Nat.min_eq_right (by omega), Nat.max_eq_left (by omega)]; rfl
abbrev Pr := Nat × Nat
def encQ (p : Pr) : D := .tuple [encI p.1, encI p.2]
def srt (p : Pr) : Pr := (min p.1 p.2, max p.1 p.2)
/-- where a sign leads a pair -/
def Mc.pa (M : Mc) (p : Pr) (k : Nat) : Pr := srt (M.st p.1 k, M.st p.2 k)
theorem cell_ok {fm fs fk : FE} {s k : Nat} (h : M.Ok B) (hs : s < M.tab.length) (hk : k < M.K) (em : fm δ = .ok (.im M.enc)) (es : fs δ = .ok (.im (encI s))) (ek : fk δ = .ok (.im (encI k))) : fOp gIx (fOp gIx (fOp gIx fm (fC (.int 1))) fs) fk δ = .ok (.im (encI (M.st s k))) := by
  obtain ⟨r, c1, c2, _⟩ := h.cell hs hk
  exact op_ok (op_ok (op_ok em rfl rfl) es (rowsAt c1)) ek (cellAt c2)
theorem pair_after_ok (h : M.Ok B) (hp : p < M.tab.length) (hq : q < M.tab.length) (hk : k < M.K) : F_pair_after [.im M.enc, .im (encQ (p, q)), .im (encI k)] = .ok (.im (encQ (Mc.pa M (p, q) k))) := by
  have e1 : fLc (iT (fV 1)) (gN 4) tYes (fOp gIx (fOp gIx (fOp gIx (fV 0) (fC (.int 1))) (fV 4)) (fV 2)) [4] [some (.im M.enc), some (.im (encQ (p, q))), some (.im (encI k)), none, none] = .ok (.ol [encI (M.st p k), encI (M.st q k)]) :=
    flc_ok (e := encI) (h := fun s => encI (M.st s k)) (ts := [p, q]) rfl (show 2 ≤ 16777216 by decide) fun s hs => ⟨_, _, rfl, cell_ok h (by
      rcases List.mem_cons.mp hs with e | e
      · rw [e]; exact hp
      · rw [List.mem_singleton.mp e]; exact hq) hk rfl rfl rfl, rfl⟩
  exact fn_ok ((sq_nx (set_ok (call_ok (cons_ok e1 rfl) sort2D) rfl)).trans (ret_ok (tup2 (fcons_ok (op_ok rfl rfl (ix_bl (i := 0) rfl)) rfl (fcons_ok (op_ok rfl rfl (ix_bl (i := 1) rfl)) rfl rfl))))) rfl
/-! the drawn machine -/
theorem pick_list {ds : List D} (h0 : ds ≠ []) (hl : ds.length ≤ 1000) : (F__law_pick [.drw, .im (.list ds)]).sat (fun r => ∃ d ∈ ds, r = .im d) PX := by
  have hp : 0 < ds.length := List.length_pos_iff.mpr h0
  refine sat_fn (sat_ret (sat_op (sat_ok rfl (sat_take (m := ds.length) rfl (call_ok (cons_ok rfl rfl) rfl) hp (by omega) fun i hi => ?_))))
  have e : gIx (.im (.list ds)) (.im (.int (i : Nat))) = .ok (.im ds[i]) := by
    show (ofO (atI ds (i : Int))).bind _ = _
    have h2 : atI ds (i : Int) = some ds[i] := by
      unfold atI ixN
      rw [if_pos (by omega), if_pos (by omega)]
      simp [hi]
    rw [h2]
    rfl
  exact sat_ok e ⟨_, rfl, rfl, ds[i], List.getElem_mem hi, rfl⟩
theorem law_machine_ok : (F__law_machine [.drw, .im (.int 5)]).sat (fun r => ∃ M : Mc, M.Ok 5 ∧ r = .im M.enc) PX := by
  refine sat_fn (sat_sq (sat_set (sat_callC (sat_cons (sat_ok (a := R.drw) rfl (sat_fcons (sat_ok (a := R.ol [.str (tx [0, 1]), .str (tx [0, 1]), .str (tx [0]), .str (tx [0, 1, 2])]) rfl ⟨.im (.list [.str (tx [0, 1]), .str (tx [0, 1]), .str (tx [0]), .str (tx [0, 1, 2])]), rfl, sat_ok (a := []) rfl ⟨rfl, ?_⟩⟩)))))))
  refine Tr.sat_of (pick_list (ds := [.str (tx [0, 1]), .str (tx [0, 1]), .str (tx [0]), .str (tx [0, 1, 2])]) (fun z => by cases z) (show 4 ≤ 1000 by decide)) fun r hr => ?_
  obtain ⟨K, hK, er⟩ : ∃ K, (K = 1 ∨ K = 2 ∨ K = 3) ∧ r = .im (.str (tx (List.range K))) := by
    obtain ⟨d, hd, er⟩ := hr
    rcases List.mem_cons.mp hd with z | hd
    · exact ⟨2, .inr (.inl rfl), by rw [er, z]; rfl⟩
    · rcases List.mem_cons.mp hd with z | hd
      · exact ⟨2, .inr (.inl rfl), by rw [er, z]; rfl⟩
      · rcases List.mem_cons.mp hd with z | hd
        · exact ⟨1, .inl rfl, by rw [er, z]; rfl⟩
        · exact ⟨3, .inr (.inr rfl), by rw [er, List.mem_singleton.mp hd]; rfl⟩
  subst er
  refine ⟨.im (.str (tx (List.range K))), rfl, _, rfl, ?_⟩
  refine sat_sq (sat_set (sat_op (sat_ok (a := .im (.int 1)) rfl (sat_take (m := 5) rfl rfl (by decide) (by decide) fun m0 hm0 => sat_ok (a := .im (.int ((m0 + 1 : Nat) : Int))) ?_ ⟨_, rfl, _, rfl, ?_⟩))))
  · show Tr.ok (R.im (PyData.int (1 + (m0 : Nat)))) = _
    congr 3
    omega
  generalize hm : m0 + 1 = m
  have m1 : 1 ≤ m := by omega
  have m4 : m ≤ 5 := by omega
  refine sat_sq (sat_set (sat_call (sat_cons (sat_lc (PD := fun d => ∃ row : List Nat, d = .tuple (row.map encI) ∧ (row.length = K ∧ ∀ p ∈ row, p < m)) ?_))))
  refine sat_R1 (sat_ok (a := [.im (.int (m : Nat))]) rfl ⟨m, rfl, by omega, ?_⟩)
  refine ⟨by rw [List.length_map, List.length_range]; omega, fun d hd => ⟨_, rfl, sat_call (sat_cons (sat_lc (PD := fun d => ∃ i : Nat, d = encI i ∧ i < m) (sat_iS rfl ⟨by rw [signs_tx, List.length_map, List.length_range]; omega, fun d hd => ⟨_, rfl, sat_take (m := m) rfl rfl m1 (by omega) fun r hr => ⟨_, rfl, r, rfl, hr⟩⟩, fun out ho hp => ?_⟩)))⟩, fun out ho hp => ?_⟩
  · obtain ⟨os, rfl, hos⟩ := ex_map hp
    rw [List.length_map, signs_tx, List.length_map, List.length_range] at ho
    exact sat_ok (a := []) rfl (sat_ok rfl ⟨_, rfl, os, rfl, ho, hos⟩)
  · obtain ⟨tab, rfl, ht⟩ := ex_map hp
    rw [List.length_map, List.length_map, List.length_range] at ho
    refine sat_ok (a := []) rfl (sat_ok (a := .im (encT tab)) rfl ⟨_, rfl, _, rfl, ?_⟩)
    refine sat_ret (sat_tup (sat_cons (sat_ok (a := .im (.str (tx (List.range K)))) rfl (sat_cons (sat_ok (a := .im (encT tab)) rfl (sat_cons (sat_call (sat_cons (sat_lcIf (PD := fun d => ∃ i : Nat, d = encI i ∧ True) ?_)))))))))
    refine sat_R1 (sat_ok (a := [.im (.int (m : Nat))]) rfl ⟨m, rfl, by omega, ?_⟩)
    refine ⟨by rw [List.length_map, List.length_range]; omega, fun d hd => ?_, fun out ho2 hp2 => ?_⟩
    · obtain ⟨i, _, rfl⟩ := List.mem_map.mp hd
      refine ⟨_, rfl, Tr.sat_bind.mpr (sat_op (sat_take (m := 3) rfl rfl (by decide) (by decide) fun r hr => sat_ok (a := .im (.int 0)) rfl ?_))⟩
      refine sat_ok (a := .im (.bool (decide (r = 0)))) ?_ ?_
      · unfold gEq
        show gd (shp (.int (r : Nat)) && shp (.int (0 : Nat))) (Tr.ok (R.im (PyData.bool (PyData.eqv (.int (r : Nat)) (.int (0 : Nat)))))) = _
        rw [shp_nat, shp_nat, eqv_nat]; rfl
      · intro _
        exact ⟨_, _, rfl, rfl, i, rfl, trivial⟩
    · obtain ⟨acc, rfl, _⟩ := ex_map hp2
      rw [List.length_map, List.length_map, List.length_range] at ho2
      refine sat_ok (a := []) rfl (sat_ok (a := .im (.tuple (acc.map encI))) rfl (sat_ok (a := []) rfl ⟨[.str (tx (List.range K)), encT tab, .tuple (acc.map encI)], rfl, (show 3 ≤ 16777216 by decide), _, rfl, rfl, ⟨K, tab, acc⟩, ⟨hK, by show 0 < tab.length; omega, by show tab.length ≤ 5; omega, fun r hr => ?_⟩, rfl⟩))
      obtain ⟨h1, h2⟩ := ht r hr
      exact ⟨h1, fun p hp => by show p < tab.length; rw [ho]; exact h2 p hp⟩
end
end K36
set_option Elab.async false
set_option linter.all false
set_option maxRecDepth 100000
set_option maxHeartbeats 1000000
/-! merging_pairs -/
namespace K36
open PySem PySem.Spec L2 DW FW MK
def prs (n : Nat) : List Pr := (List.range n).flatMap fun p => (List.range' (p + 1) (n - (p + 1))).map fun q => (p, q)
def Mc.mg (M : Mc) (f : List Pr) (p : Pr) : Bool := (List.range M.K).any fun k => decide ((Mc.pa M p k).1 = (Mc.pa M p k).2) || decide (Mc.pa M p k ∈ f)
def Mc.stp (M : Mc) (f : List Pr) (p : Pr) : List Pr := if Mc.mg M f p = true ∧ p ∉ f then f ++ [p] else f
def Mc.sweep (M : Mc) (f : List Pr) : List Pr := (prs M.tab.length).foldl (Mc.stp M) f
def Mc.FS (M : Mc) : Nat → List Pr
  | 0 => []
  | m + 1 => Mc.sweep M (Mc.FS M m)
section
variable {M : Mc} {B p q n k K a b s i j m : Nat} {δ : DEnv} {fa fb : FE} {PX : Xn → Prop} {f : List Pr} {pr : Pr}
theorem mem_prs : pr ∈ prs n ↔ pr.1 < pr.2 ∧ pr.2 < n := by
  unfold prs
  rw [List.mem_flatMap]
  constructor
  · rintro ⟨p, hp, h⟩
    obtain ⟨q, hq, rfl⟩ := List.mem_map.mp h
    rw [List.mem_range] at hp
    rw [List.mem_range'_1] at hq
    exact ⟨by show p < q; omega, by show q < n; omega⟩
  · intro ⟨h1, h2⟩
    exact ⟨pr.1, List.mem_range.mpr (by omega), List.mem_map.mpr ⟨pr.2, List.mem_range'_1.mpr (by omega), rfl⟩⟩
theorem prs_len (h : n ≤ 5) : (prs n).length ≤ 10 := by
  have : n = 0 ∨ n = 1 ∨ n = 2 ∨ n = 3 ∨ n = 4 ∨ n = 5 := by omega
  rcases this with rfl | rfl | rfl | rfl | rfl | rfl <;> decide
theorem prs_nd (h : n ≤ 5) : (prs n).Nodup := by
  have : n = 0 ∨ n = 1 ∨ n = 2 ∨ n = 3 ∨ n = 4 ∨ n = 5 := by omega
  rcases this with rfl | rfl | rfl | rfl | rfl | rfl <;> decide
/-- what is found: pairs, none twice -/
structure Fo (M : Mc) (f : List Pr) : Prop where
  nd : f.Nodup
  sub : ∀ p ∈ f, p ∈ prs M.tab.length
theorem Fo.stp (o : Fo M f) (hp : pr ∈ prs M.tab.length) : Fo M (Mc.stp M f pr) := by
  unfold Mc.stp
  split
  · rename_i h
    refine ⟨List.nodup_append.mpr ⟨o.nd, by simp, fun x hx y hy e => h.2 (by rw [← List.mem_singleton.mp hy, ← e]; exact hx)⟩, fun p h' => ?_⟩
    rcases List.mem_append.mp h' with h' | h'
    · exact o.sub p h'
    · rw [List.mem_singleton.mp h']; exact hp
  · exact o
theorem Fo.fold : ∀ (l : List Pr) (f : List Pr), Fo M f → (∀ p ∈ l, p ∈ prs M.tab.length) → Fo M (l.foldl (Mc.stp M) f)
  | [], f, o, _ => o
  | p :: l, f, o, h => Fo.fold l _ (o.stp (h p (List.mem_cons_self ..))) fun q hq => h q (List.mem_cons_of_mem _ hq)
theorem Fo.FS : ∀ m, Fo M (Mc.FS M m)
  | 0 => ⟨List.nodup_nil, fun p h => by cases h⟩
  | m + 1 => Fo.fold _ _ (Fo.FS m) fun p h => h
theorem Fo.len (o : Fo M f) (h : M.Ok 5) : f.length ≤ (prs M.tab.length).length := BF.nodup_sub _ _ o.nd o.sub
theorem stp_len : f.length ≤ (Mc.stp M f pr).length ∧ ((Mc.stp M f pr).length = f.length → Mc.stp M f pr = f) ∧ ∀ x ∈ f, x ∈ Mc.stp M f pr := by
  unfold Mc.stp
  split
  · exact ⟨(by rw [List.length_append]; omega), (fun h => (by rw [List.length_append] at h; simp at h)), fun x hx => List.mem_append_left _ hx⟩
  · exact ⟨Nat.le_refl _, fun _ => rfl, fun x hx => hx⟩
theorem fold_len : ∀ (l : List Pr) (f : List Pr), f.length ≤ (l.foldl (Mc.stp M) f).length ∧ ((l.foldl (Mc.stp M) f).length = f.length → (∀ p ∈ l, Mc.stp M f p = f) ∧ l.foldl (Mc.stp M) f = f) ∧ ∀ x ∈ f, x ∈ l.foldl (Mc.stp M) f
  | [], f => ⟨Nat.le_refl _, fun _ => ⟨fun p h => (by cases h), rfl⟩, fun x hx => hx⟩
  | p :: l, f => by
    obtain ⟨h1, h2, h3⟩ := stp_len (M := M) (f := f) (pr := p)
    obtain ⟨g1, g2, g3⟩ := fold_len l (Mc.stp M f p)
    refine ⟨Nat.le_trans h1 g1, fun h => ?_, fun x hx => g3 x (h3 x hx)⟩
    have h : (l.foldl (Mc.stp M) (Mc.stp M f p)).length = f.length := h
    have e1 := h2 (by omega)
    rw [e1] at g1 g2
    have h : (l.foldl (Mc.stp M) f).length = f.length := by rw [e1] at h; exact h
    obtain ⟨g4, g5⟩ := g2 h
    refine ⟨fun x hx => ?_, by show l.foldl (Mc.stp M) (Mc.stp M f p) = f; rw [e1, g5]⟩
    rcases List.mem_cons.mp hx with rfl | hx
    · exact e1
    · exact g4 x hx
theorem FS_mono : (Mc.FS M m).length ≤ (Mc.FS M (m + 1)).length := (fold_len _ _).1
theorem FS_fix (h : (Mc.FS M (m + 1)).length = (Mc.FS M m).length) : ∀ j, Mc.FS M (m + j) = Mc.FS M m
  | 0 => rfl
  | j + 1 => by
    show Mc.sweep M (Mc.FS M (m + j)) = _
    rw [FS_fix h j]
    exact ((fold_len _ _).2.1 h).2
/-- all pairs that some word leads to one -/
def Mc.fx (M : Mc) : List Pr := Mc.FS M (prs M.tab.length).length
theorem FS_grow (h : M.Ok 5) : ∀ m, (∃ j, j < m ∧ (Mc.FS M (j + 1)).length = (Mc.FS M j).length) ∨ m ≤ (Mc.FS M m).length
  | 0 => .inr (Nat.zero_le _)
  | m + 1 => by
    rcases FS_grow h m with ⟨j, h1, h2⟩ | h1
    · exact .inl ⟨j, by omega, h2⟩
    · by_cases e : (Mc.FS M (m + 1)).length = (Mc.FS M m).length
      · exact .inl ⟨m, by omega, e⟩
      · have := FS_mono (M := M) (m := m)
        exact .inr (by omega)
theorem FS_end (h : M.Ok 5) : (Mc.FS M ((prs M.tab.length).length + 1)).length = (Mc.FS M (prs M.tab.length).length).length := by
  rcases FS_grow h ((prs M.tab.length).length + 1) with ⟨j, h1, h2⟩ | h1
  · have e1 := FS_fix h2 ((prs M.tab.length).length - j)
    have e2 := FS_fix h2 ((prs M.tab.length).length + 1 - j)
    rw [show j + ((prs M.tab.length).length - j) = (prs M.tab.length).length by omega] at e1
    rw [show j + ((prs M.tab.length).length + 1 - j) = (prs M.tab.length).length + 1 by omega] at e2
    rw [e1, e2]
  · have := (Fo.FS (M := M) ((prs M.tab.length).length + 1)).len h
    omega
theorem FS_fx (h : M.Ok 5) (e : (Mc.FS M (m + 1)).length = (Mc.FS M m).length) : Mc.FS M m = Mc.fx M := by
  have h1 := FS_fix e (prs M.tab.length).length
  have h2 := FS_fix (FS_end h) m
  rw [Nat.add_comm] at h1
  rw [← h1, h2]
  rfl
theorem FS_law (h : M.Ok 5) : Mc.FS M ((prs M.tab.length).length + 1) = Mc.fx M := by
  have := FS_fix (FS_end h) 1
  exact this
/-- closed -/
theorem fx_clo (h : M.Ok 5) (hp : pr ∈ prs M.tab.length) (hm : Mc.mg M (Mc.fx M) pr = true) : pr ∈ Mc.fx M := by
  have h1 := ((fold_len (M := M) (prs M.tab.length) (Mc.FS M (prs M.tab.length).length)).2.1 (FS_end h)).1 pr hp
  unfold Mc.stp at h1
  by_cases e : pr ∈ Mc.fx M
  · exact e
  · rw [if_pos ⟨hm, e⟩] at h1
    have := congrArg List.length h1
    rw [List.length_append] at this
    simp at this
/-! the walk -/
def dq (f : List Pr) : List (List Key × D) := dct (fun p : Pr => [p.1, p.2]) (fun _ => .bool true) f
theorem kq_map : f.map (fun p : Pr => [p.1, p.2]) = f.map fun p : Pr => [p.1, p.2] := rfl
theorem mem_kq : [pr.1, pr.2] ∈ f.map (fun p : Pr => [p.1, p.2]) ↔ pr ∈ f := by
  rw [List.mem_map]
  exact ⟨fun ⟨x, hx, e⟩ => by
    injection e with e1 e2
    injection e2 with e2 _
    have : x = pr := Prod.ext e1 e2
    rw [← this]; exact hx, fun h => ⟨pr, h, rfl⟩⟩
theorem dinq_ok {neg : Bool} (ha : fa δ = .ok (.im (encQ pr))) (hb : fb δ = .ok (.bT (dq f))) : fOp (gDinz neg) fa fb δ = .ok (.im (.bool (if neg then !decide (pr ∈ f) else decide (pr ∈ f)))) := by
  have := dinT_ok (neg := neg) (x := [pr.1, pr.2]) ha hb
  rw [this]
  have e : decide ([pr.1, pr.2] ∈ f.map (fun p : Pr => [p.1, p.2])) = decide (pr ∈ f) := decide_eq_decide.mpr mem_kq
  rw [e]
theorem putq_ok (hl : f.length < 16777216) (h : pr ∉ f) : putF (.oT (dq f)) (encQ pr) (.bool true) = .ok (.oT (dq (f ++ [pr]))) := putT_ok (kf := fun p : Pr => [p.1, p.2]) (ν := fun _ => .bool true) (e := pr) (fun z => h (mem_kq.mp z)) hl
theorem putq_same (hl : f.length < 16777216) (h : pr ∈ f) : putF (.oT (dq f)) (encQ pr) (.bool true) = .ok (.oT (dq f)) := putT_same (kf := fun p : Pr => [p.1, p.2]) (ν := fun _ => .bool true) (fun _ _ => rfl) (mem_kq.mpr h) hl
theorem eq_nat (ha : fa δ = .ok (.im (encI a))) (hb : fb δ = .ok (.im (encI b))) : fOp gEq fa fb δ = .ok (.im (.bool (decide (a = b)))) := by
  refine op_ok ha hb ?_
  show gd (shp (.int (a : Nat)) && shp (.int (b : Nat))) (Tr.ok (R.im (PyData.bool (PyData.eqv (.int (a : Nat)) (.int (b : Nat)))))) = _
  rw [shp_nat, shp_nat, eqv_nat]; rfl
theorem any_map {α : Type} {ts : List α} {c : α → Bool} : gAny [.ol (ts.map fun t => .bool (c t))] = .ok (.im (.bool (ts.any c))) := by
  rw [any_ok (bs := ts.map c) (by rw [List.map_map]; rfl), List.any_map]
  rfl
theorem all_map {α : Type} {ts : List α} {c : α → Bool} : gAll [.ol (ts.map fun t => .bool (c t))] = .ok (.im (.bool (ts.all c))) := by
  rw [all_ok (bs := ts.map c) (by rw [List.map_map]; rfl), List.all_map]
  rfl
theorem lenK_ok {f : FE} (h : M.Ok B) (hf : f δ = .ok (.im M.enc)) : fCall gLen (aCons (fOp gIx f (fC (.int 0))) aNil) δ = .ok (.im (.int (M.K : Nat))) := by
  have := len_tx' (w := List.range M.K) (by rw [List.length_range]; have := h.k; omega) (f := fOp gIx f (fC (.int 0))) (op_ok hf rfl rfl)
  rw [List.length_range] at this
  exact this
def mpE (M : Mc) (f : List Pr) (x2 x4 x5 x6 x7 x8 x9 : Option SV) : DEnv := [some (.im M.enc), some (.im (.int (M.tab.length : Nat))), x2, some (.oT (dq f)), x4, x5, x6, x7, x8, x9]
def mpB : FS := (sSq (sSetF 6 (fLc (iR1 (aCons (fCall gLen (aCons (fOp gIx (fV 0) (fC (.int 0))) aNil)) aNil)) (gN 9) tYes (fCallC 3 F_pair_after (aCons (fV 0) (aCons (fV 5) (aCons (fV 9) aNil)))) [9]))
 (sIfF (tB (fCall gAny (aCons (fLc (iLb (fV 6)) (gTup 2 (gsCons (gN 7) (gsCons (gN 8) gsNil))) tYes (fOr (fOp gEq (fV 7) (fV 8)) (fOp (gDinz false) (fTup (aCons (fV 7) (aCons (fV 8) aNil))) (fV 3))) [7, 8]) aNil))) (sPutF 3 (fV 5) (fC (.bool true))) sNx))
theorem mpB_ok (h : M.Ok 5) (hp : pr ∈ prs M.tab.length) (hl : f.length ≤ 10) {x2 x4 x6 x7 x8 x9 : Option SV} : ∃ y6, mpB (mpE M f x2 x4 (some (.im (encQ pr))) x6 x7 x8 x9) = .ok (.nx (mpE M (Mc.stp M f pr) x2 x4 (some (.im (encQ pr))) y6 x7 x8 x9)) := by
  obtain ⟨h1, h2⟩ := mem_prs.mp hp
  have hk := h.k
  have e6 : sSetF 6 (fLc (iR1 (aCons (fCall gLen (aCons (fOp gIx (fV 0) (fC (.int 0))) aNil)) aNil)) (gN 9) tYes (fCallC 3 F_pair_after (aCons (fV 0) (aCons (fV 5) (aCons (fV 9) aNil)))) [9]) (mpE M f x2 x4 (some (.im (encQ pr))) x6 x7 x8 x9) =
      .ok (.nx (mpE M f x2 x4 (some (.im (encQ pr))) (some (.ol ((List.range M.K).map fun k => encQ (Mc.pa M pr k)))) x7 x8 x9)) :=
    set_ok (flc_ok (e := encI) (h := fun k => encQ (Mc.pa M pr k)) (ts := List.range M.K) (R1_ok (m := M.K) (cons_ok (lenK_ok h rfl) rfl) (by omega)) (by rw [List.length_range]; omega) fun k hk2 => ⟨_, _, rfl, callC_ok (cons_ok rfl (cons_ok rfl (cons_ok rfl rfl))) rfl (pair_after_ok (p := pr.1) (q := pr.2) h (by omega) h2 (List.mem_range.mp hk2)), rfl⟩) rfl
  have et : tB (fCall gAny (aCons (fLc (iLb (fV 6)) (gTup 2 (gsCons (gN 7) (gsCons (gN 8) gsNil))) tYes (fOr (fOp gEq (fV 7) (fV 8)) (fOp (gDinz false) (fTup (aCons (fV 7) (aCons (fV 8) aNil))) (fV 3))) [7, 8]) aNil)) (mpE M f x2 x4 (some (.im (encQ pr))) (some (.ol ((List.range M.K).map fun k => encQ (Mc.pa M pr k)))) x7 x8 x9) = .ok (Mc.mg M f pr) := by
    refine tB_ok (call_ok (cons_ok (flc_ok (e := fun k => encQ (Mc.pa M pr k)) (h := fun k => .bool (decide ((Mc.pa M pr k).1 = (Mc.pa M pr k).2) || decide (Mc.pa M pr k ∈ f))) (ts := List.range M.K) rfl (by rw [List.length_range]; omega) fun k _ => ?_) rfl) any_map)
    refine ⟨mpE M f x2 x4 (some (.im (encQ pr))) (some (.ol ((List.range M.K).map fun k => encQ (Mc.pa M pr k)))) (some (.im (encI (Mc.pa M pr k).1))) (some (.im (encI (Mc.pa M pr k).2))) x9, .im (.bool (decide ((Mc.pa M pr k).1 = (Mc.pa M pr k).2) || decide (Mc.pa M pr k ∈ f))), rfl, ?_, rfl⟩
    have e1 := eq_nat (a := (Mc.pa M pr k).1) (b := (Mc.pa M pr k).2) (fa := fV 7) (fb := fV 8) (δ := mpE M f x2 x4 (some (.im (encQ pr))) (some (.ol ((List.range M.K).map fun k => encQ (Mc.pa M pr k)))) (some (.im (encI (Mc.pa M pr k).1))) (some (.im (encI (Mc.pa M pr k).2))) x9) rfl rfl
    have e2 := dinq_ok (neg := false) (pr := Mc.pa M pr k) (f := f) (fa := fTup (aCons (fV 7) (aCons (fV 8) aNil))) (fb := fV 3) (δ := mpE M f x2 x4 (some (.im (encQ pr))) (some (.ol ((List.range M.K).map fun k => encQ (Mc.pa M pr k)))) (some (.im (encI (Mc.pa M pr k).1))) (some (.im (encI (Mc.pa M pr k).2))) x9) (tup2 rfl) rfl
    exact or_ok e1 e2
  refine ⟨some (.ol ((List.range M.K).map fun k => encQ (Mc.pa M pr k))), (sq_nx e6).trans ?_⟩
  unfold Mc.stp
  cases hm : Mc.mg M f pr with
  | false =>
    rw [hm] at et
    rw [if_neg (fun z => by cases z.1)]
    exact (if_f et).trans rfl
  | true =>
    rw [hm] at et
    by_cases hin : pr ∈ f
    · rw [if_neg (fun z => z.2 hin)]
      exact (if_t et).trans (put_ok (kd := encQ pr) rfl rfl rfl rfl (putq_same (by omega) hin))
    · rw [if_pos ⟨rfl, hin⟩]
      exact (if_t et).trans (put_ok (kd := encQ pr) rfl rfl rfl rfl (putq_ok (by omega) hin))
theorem mp_sweep (h : M.Ok 5) {x4 x5 x6 x7 x8 x9 : Option SV} : ∀ (l f : List Pr), (∀ p ∈ l, p ∈ prs M.tab.length) → Fo M f → ∀ x5 x6, ∃ y5 y6, forF (gN 5) mpB (l.map encQ) (mpE M f (some (.im (.list ((prs M.tab.length).map encQ)))) x4 x5 x6 x7 x8 x9) = .ok (.nx (mpE M (l.foldl (Mc.stp M) f) (some (.im (.list ((prs M.tab.length).map encQ)))) x4 y5 y6 x7 x8 x9))
  | [], f, _, _, x5, x6 => ⟨x5, x6, rfl⟩
  | p :: l, f, hl, o, x5, x6 => by
    have hp := hl p (List.mem_cons_self ..)
    have hlen := o.len h
    have := prs_len h.n1
    obtain ⟨y6, e1⟩ := mpB_ok (M := M) (f := f) (pr := p) (x2 := some (.im (.list ((prs M.tab.length).map encQ)))) (x4 := x4) (x6 := x6) (x7 := x7) (x8 := x8) (x9 := x9) h hp (by omega)
    obtain ⟨z5, z6, e2⟩ := mp_sweep h (x4 := x4) (x5 := x5) (x6 := y6) (x7 := x7) (x8 := x8) (x9 := x9) l (Mc.stp M f p) (fun q hq => hl q (List.mem_cons_of_mem _ hq)) (o.stp hp) (some (.im (encQ p))) y6
    refine ⟨z5, z6, ?_⟩
    rw [List.map_cons, forF]
    show (mpB (mpE M f (some (.im (.list ((prs M.tab.length).map encQ)))) x4 (some (.im (encQ p))) x6 x7 x8 x9)).bind _ = _
    rw [e1]
    exact e2
/-- the pairs with whether they merge -/
def mdq (M : Mc) : List (List Key × D) := dct (fun p : Pr => [p.1, p.2]) (fun p => .bool (decide (p ∈ Mc.fx M))) (prs M.tab.length)
def befD (M : Mc) : Nat → D
  | 0 => .int (-1)
  | m + 1 => .int ((Mc.FS M m).length : Nat)
def mpL : FS := (sWhF (tB (fOp gLt (fV 4) (fCall gLenT (aCons (fV 3) aNil)))) (sSq (sSetF 4 (fCall gLenT (aCons (fV 3) aNil))) (sFrzDF 2 (sForF (iL (fV 2)) (gN 5) mpB))))
theorem mp_loop (h : M.Ok 5) : ∃ y4 y5 y6, mpL (mpE M [] (some (.ol ((prs M.tab.length).map encQ))) (some (.im (.int (-1)))) none none none none none) = .ok (.nx (mpE M (Mc.fx M) (some (.im (.list ((prs M.tab.length).map encQ)))) y4 y5 y6 none none none)) := by
  have hpl := prs_len h.n1
  have lenT : ∀ {f : List Pr} {δ : DEnv}, fV 3 δ = .ok (.bT (dq f)) → fCall gLenT (aCons (fV 3) aNil) δ = .ok (.im (.int (f.length : Nat))) := fun {f} {δ} e => by
    have : (dq f).length = f.length := by unfold dq dct; rw [List.length_map]
    rw [← this]
    exact call_ok (cons_ok e rfl) rfl
  obtain ⟨δ', e1, y4, y5, y6, e2⟩ := wh_ok (t := tB (fOp gLt (fV 4) (fCall gLenT (aCons (fV 3) aNil)))) (b := sSq (sSetF 4 (fCall gLenT (aCons (fV 3) aNil))) (sFrzDF 2 (sForF (iL (fV 2)) (gN 5) mpB)))
    (fun m δ => m ≤ (Mc.FS M m).length + 1 ∧ (∀ j, j + 1 < m → (Mc.FS M j).length < (Mc.FS M (j + 1)).length) ∧ ∃ x2 y5 y6, (x2 = some (.im (.list ((prs M.tab.length).map encQ))) ∨ (m = 0 ∧ x2 = some (.ol ((prs M.tab.length).map encQ)))) ∧ δ = mpE M (Mc.FS M m) x2 (some (.im (befD M m))) y5 y6 none none none)
    (fun δ => ∃ y4 y5 y6, δ = mpE M (Mc.fx M) (some (.im (.list ((prs M.tab.length).map encQ)))) y4 y5 y6 none none none) 12 (by
      rintro m δ ⟨hm, hgr, x2, y5, y6, hx2, rfl⟩
      have hfo := (Fo.FS (M := M) m).len h
      cases m with
      | zero =>
        refine .inr ⟨by omega, tB_ok (op_ok rfl (lenT rfl) rfl), ?_⟩
        obtain ⟨z5, z6, e3⟩ := mp_sweep h (M := M) (x4 := some (.im (.int ((Mc.FS M 0).length : Nat)))) (x5 := y5) (x6 := y6) (x7 := none) (x8 := none) (x9 := none) (prs M.tab.length) [] (fun p hp => hp) ⟨List.nodup_nil, fun p h => by cases h⟩ y5 y6
        refine ⟨mpE M (Mc.FS M 1) (some (.im (.list ((prs M.tab.length).map encQ)))) (some (.im (befD M 1))) z5 z6 none none none, ?_, by omega, fun j hj => by omega, _, z5, z6, .inl rfl, rfl⟩
        refine (sq_nx (set_ok (lenT rfl) rfl)).trans ?_
        rcases hx2 with rfl | ⟨_, rfl⟩
        · exact for_ok rfl e3
        · exact for_ok rfl e3
      | succ m =>
        have hx2 : x2 = some (.im (.list ((prs M.tab.length).map encQ))) := hx2.elim id fun z => by cases z.1
        subst hx2
        have tst : tB (fOp gLt (fV 4) (fCall gLenT (aCons (fV 3) aNil))) (mpE M (Mc.FS M (m + 1)) (some (.im (.list ((prs M.tab.length).map encQ)))) (some (.im (befD M (m + 1)))) y5 y6 none none none) = .ok (decide ((Mc.FS M m).length < (Mc.FS M (m + 1)).length)) := lt_ok rfl (lenT rfl)
        by_cases hlt : (Mc.FS M m).length < (Mc.FS M (m + 1)).length
        · have hmm : m + 1 ≤ (Mc.FS M (m + 1)).length := by
            rcases FS_grow h (m + 1) with ⟨j, h1, h2⟩ | h1
            · by_cases ej : j = m
              · subst ej; omega
              · have := hgr j (by omega); omega
            · exact h1
          refine .inr ⟨by omega, by rw [tst, decide_eq_true hlt], ?_⟩
          obtain ⟨z5, z6, e3⟩ := mp_sweep h (M := M) (x4 := some (.im (.int ((Mc.FS M (m + 1)).length : Nat)))) (x5 := y5) (x6 := y6) (x7 := none) (x8 := none) (x9 := none) (prs M.tab.length) (Mc.FS M (m + 1)) (fun p hp => hp) (Fo.FS _) y5 y6
          refine ⟨mpE M (Mc.FS M (m + 2)) (some (.im (.list ((prs M.tab.length).map encQ)))) (some (.im (befD M (m + 2)))) z5 z6 none none none, ?_, ?_, fun j hj => ?_, _, z5, z6, .inl rfl, rfl⟩
          · exact (sq_nx (set_ok (lenT rfl) rfl)).trans (for_ok rfl e3)
          · have := FS_mono (M := M) (m := m + 1); omega
          · by_cases ej : j = m
            · subst ej; exact hlt
            · exact hgr j (by omega)
        · refine .inl ⟨by rw [tst, decide_eq_false hlt], some (.im (befD M (m + 1))), y5, y6, ?_⟩
          have hmono := FS_mono (M := M) (m := m)
          have e3 := FS_fix (M := M) (m := m) (by omega) 1
          have e4 := FS_fx h (M := M) (m := m) (by omega)
          rw [show Mc.FS M (m + 1) = Mc.fx M from e3.trans e4])
    fuel 0 _ ⟨Nat.zero_le _, fun j hj => by omega, _, none, none, .inr ⟨rfl, rfl⟩, rfl⟩ (Nat.zero_le _) (by unfold fuel; omega)
  subst e2
  exact ⟨y4, y5, y6, e1⟩
theorem merging_ok (h : M.Ok 5) : F_merging_pairs [.im M.enc] = .ok (.oT (mdq M)) := by
  have hpl := prs_len h.n1
  have hnd := prs_nd h.n1
  have n1 := h.n1
  have e2 : sSetF 2 (fLc2 (iR1 (aCons (fV 1) aNil)) (gN 7) (iR2 (aCons (fOp gAdd (fV 7) (fC (.int 1))) (aCons (fV 1) aNil))) (gN 8) tYes (fTup (aCons (fV 7) (aCons (fV 8) aNil))) [7, 8] [8]) [some (.im M.enc), some (.im (.int (M.tab.length : Nat))), none, none, none, none, none, none, none, none] =
      .ok (.nx [some (.im M.enc), some (.im (.int (M.tab.length : Nat))), some (.ol ((prs M.tab.length).map encQ)), none, none, none, none, none, none, none]) := by
    refine set_ok (flc2_ok (e1 := encI) (us := fun p => (List.range' (p + 1) (M.tab.length - (p + 1))).map fun q => (p, q)) (e2 := fun x : Pr => encI x.2) (h := encQ) (ts := List.range M.tab.length) (R1_ok (m := M.tab.length) rfl (by omega)) (by show (prs M.tab.length).length ≤ _; omega) fun p hp => ?_) rfl
    rw [List.mem_range] at hp
    refine ⟨_, rfl, ?_, fun x hx => ?_⟩
    · rw [List.map_map]
      exact R2g_ok (a := p + 1) (b := M.tab.length) (cons_ok (op_ok rfl rfl rfl) (cons_ok rfl rfl)) (by omega) (by omega)
    · obtain ⟨q, _, rfl⟩ := List.mem_map.mp hx
      exact ⟨_, _, rfl, tup2 rfl, rfl⟩
  obtain ⟨y4, y5, y6, e4⟩ := mp_loop h
  refine fn_ok (r := .oT (mdq M)) ((sq_nx (set_ok (many_ok rfl) rfl)).trans ((sq_nx e2).trans ((sq_nx rfl).trans ((sq_nx (δ' := mpE M [] (some (.ol ((prs M.tab.length).map encQ))) (some (.im (.int (-1)))) none none none none none) rfl).trans ((sq_nx e4).trans (ret_ok ?_)))))) rfl
  have e5 := dcT_ok (ε := encQ) (κ2 := fun p : Pr => [p.1, p.2]) (v := fun p => .bool (decide (p ∈ Mc.fx M))) (g := gN 5) (fk := fV 5) (fv := fOp (gDinz false) (fV 5) (fV 3)) (δ0 := mpE M (Mc.fx M) (some (.im (.list ((prs M.tab.length).map encQ)))) y4 none y6 none none none) (prs M.tab.length) [] (by
    rw [List.nil_append]
    exact List.Pairwise.map (R := (· ≠ ·)) (S := (· ≠ ·)) _ (fun x y hne e => hne (by
      injection e with e1 e2
      injection e2 with e2 _
      exact Prod.ext e1 e2)) hnd) (by rw [List.nil_append]; omega) fun p hp => ⟨_, _, rfl, rfl, dinq_ok rfl rfl, rfl⟩
  unfold fDc
  show (dcF (gN 5) tYes (fV 5) (fOp (gDinz false) (fV 5) (fV 3)) (mpE M (Mc.fx M) (some (.im (.list ((prs M.tab.length).map encQ)))) y4 none y6 none none none) ((prs M.tab.length).map encQ) (.oT (dct (fun p : Pr => [p.1, p.2]) (fun p => .bool (decide (p ∈ Mc.fx M))) []))).bind _ = _
  rw [e5]
  rfl
end
end K36
set_option Elab.async false
set_option linter.all false
set_option maxRecDepth 100000
set_option maxHeartbeats 1000000
/-! sets of states, and the walk over them -/
namespace K36
open PySem PySem.Spec L2 DW FW MK
abbrev Es := List Nat × List Nat
/-- where a sign leads a set -/
def Mc.ts (M : Mc) (S : List Nat) (k : Nat) : List Nat := (List.range M.tab.length).filter fun q => decide (q ∈ S.map fun s => M.st s k)
def subs : List Nat → List (List Nat)
  | [] => [[]]
  | a :: l => subs l ++ (subs l).map (a :: ·)
theorem mem_subs (p : Nat → Bool) : ∀ l : List Nat, l.filter p ∈ subs l
  | [] => List.mem_singleton.mpr rfl
  | a :: l => by
    rw [List.filter_cons]
    have := mem_subs p l
    split
    · exact List.mem_append_right _ (List.mem_map.mpr ⟨_, this, rfl⟩)
    · exact List.mem_append_left _ this
theorem subs_len : ∀ l : List Nat, (subs l).length = 2 ^ l.length
  | [] => rfl
  | a :: l => by
    show (subs l ++ (subs l).map (a :: ·)).length = _
    rw [List.length_append, List.length_map, subs_len l, List.length_cons, Nat.pow_succ]; omega
section
variable {M : Mc} {B p q n k K a b s i j m z c : Nat} {δ : DEnv} {fa fb : FE} {PX : Xn → Prop} {f : List Pr} {pr : Pr} {S l w : List Nat} {Q : List Es} {e : Es}
def Mc.al0 (M : Mc) : List Nat := List.range M.tab.length
theorem run_subs : ∀ w : List Nat, BF.runT (Mc.ts M) (Mc.al0 M) w ∈ subs (List.range M.tab.length) := by
  intro w
  by_cases h : w = []
  · subst h
    have := mem_subs (fun _ => true) (List.range M.tab.length)
    rw [List.filter_eq_self.mpr (fun _ _ => rfl)] at this
    exact this
  · obtain ⟨x, d, rfl⟩ : ∃ x d, w = x ++ [d] := ⟨w.dropLast, w.getLast h, (List.dropLast_concat_getLast h).symm⟩
    rw [BF.runT_snoc]
    exact mem_subs _ _
abbrev SEnd (M : Mc) (k : Nat) : Prop := BF.KEnd (Mc.ts M) M.K 0 (Mc.al0 M) (subs (List.range M.tab.length)).length k
theorem sEnd (h : M.Ok B) : ∃ k, SEnd M k := BF.kEnd (by have := h.k; omega) (by omega) fun w _ => run_subs w
theorem SEnd.small (h : M.Ok 5) (ke : SEnd M k) : k ≤ 32 := by
  have h1 := ke.le
  rw [subs_len, List.length_range] at h1
  have := Nat.pow_le_pow_right (show 0 < 2 by omega) h.n1
  omega
abbrev Qs (M : Mc) (k : Nat) : List Es := BF.Qk (Mc.ts M) M.K 0 (Mc.al0 M) k
/-- states of a set -/
theorem ts_mem : q ∈ Mc.ts M S k ↔ q < M.tab.length ∧ q ∈ S.map fun s => M.st s k := by
  unfold Mc.ts
  rw [List.mem_filter, List.mem_range, decide_eq_true_iff]
theorem ts_pw : (Mc.ts M S k).Pairwise (· < ·) := List.Pairwise.sublist List.filter_sublist List.pairwise_lt_range
/-- of whole numbers -/
def zs (l : List Nat) : List Int := l.map fun i => ((i : Nat) : Int)
theorem zs_D : (zs l).map PyData.int = l.map encI := by unfold zs; rw [List.map_map]; rfl
theorem mem_zs {x : Int} : x ∈ zs l ↔ ∃ i ∈ l, x = ((i : Nat) : Int) := by
  unfold zs
  rw [List.mem_map]
  exact ⟨fun ⟨i, h1, h2⟩ => ⟨i, h1, h2.symm⟩, fun ⟨i, h1, h2⟩ => ⟨i, h1, h2.symm⟩⟩
theorem setI_ts (h : M.Ok B) (hS : ∀ s ∈ S, s < M.tab.length) (hk : k < M.K) : setI (zs (S.map fun s => M.st s k)) = zs (Mc.ts M S k) := by
  symm
  refine setI_eq ?_ fun x => ?_
  · exact List.Pairwise.map _ (fun a b h => Int.ofNat_lt.mpr h) ts_pw
  · rw [mem_zs, mem_zs]
    constructor
    · rintro ⟨i, h1, h2⟩
      exact ⟨i, (ts_mem.mp h1).2, h2⟩
    · rintro ⟨i, h1, h2⟩
      refine ⟨i, ts_mem.mpr ⟨?_, h1⟩, h2⟩
      obtain ⟨s, hs, rfl⟩ := List.mem_map.mp h1
      obtain ⟨_, _, _, g⟩ := h.cell (hS s hs) hk
      exact g
theorem sortI_ts {ks : List Nat} (h : M.Ok B) (hS : ∀ s ∈ S, s < M.tab.length) (hk : k < M.K) (hn : ks.Nodup) (hm : ∀ x, x ∈ ks ↔ x ∈ S.map fun s => M.st s k) : sortI (zs ks) = zs (Mc.ts M S k) := by
  symm
  refine sortI_eq ?_ ?_
  · refine List.Perm.map _ ((List.perm_ext_iff_of_nodup (ts_pw.imp fun h => Nat.ne_of_lt h) hn).mpr fun x => ?_)
    rw [hm, ts_mem]
    refine ⟨fun h => h.2, fun h1 => ⟨?_, h1⟩⟩
    obtain ⟨s, hs, rfl⟩ := List.mem_map.mp h1
    obtain ⟨_, _, _, g⟩ := h.cell (hS s hs) hk
    exact g
  · exact List.Pairwise.map _ (fun a b h => Int.ofNat_le.mpr (Nat.le_of_lt h)) ts_pw
theorem intsOf_map' : intsOf (l.map encI) = some (zs l) := by
  rw [← zs_D]
  exact intsOf_map _
/-- tuple(sorted(set(..))) -/
theorem sset_ok {f : FE} (h : M.Ok 5) (hS : ∀ s ∈ S, s < M.tab.length) (hl : S.length < 64) (hk : k < M.K) (hf : f δ = .ok (.ol ((S.map fun s => M.st s k).map encI))) : fCall gTupOf (aCons (fSortSetI f) aNil) δ = .ok (.im (encS (Mc.ts M S k))) := by
  have e1 : fSortSetI f δ = .ok (.ol ((Mc.ts M S k).map encI)) := by
    unfold fSortSetI
    rw [hf]
    show (ofO (intsOf ((S.map fun s => M.st s k).map encI))).bind _ = _
    rw [intsOf_map']
    show gd (decide ((zs (S.map fun s => M.st s k)).length < 64)) (Tr.ok (R.ol ((setI (zs (S.map fun s => M.st s k))).map PyData.int))) = _
    have : (zs (S.map fun s => M.st s k)).length < 64 := by unfold zs; rw [List.length_map, List.length_map]; exact hl
    rw [decide_eq_true this, setI_ts h hS hk, zs_D]
    rfl
  exact call_ok (cons_ok e1 rfl) rfl
/-- a dict of keys, all True -/
def kk (i : Nat) : Key × D := (.inl ((i : Nat) : Int), .bool true)
theorem dcK_ok {α : Type} {ε : α → D} {κ2 : α → Nat} {g : FG} {fk : FE} {δ0 : DEnv} : ∀ (ts : List α) (done : List Nat), done.Nodup → (done.length + ts.length) ≤ 10000 → (∀ t ∈ ts, ∃ δ1, g (ε t) δ0 = .ok δ1 ∧ fk δ1 = .ok (.im (encI (κ2 t)))) →
    ∃ done' : List Nat, dcF g tYes fk (fC (.bool true)) δ0 (ts.map ε) (.oK (done.map kk)) = .ok (.oK (done'.map kk)) ∧ done'.Nodup ∧ (∀ x, x ∈ done' ↔ x ∈ done ∨ x ∈ ts.map κ2) ∧ done'.length ≤ done.length + ts.length
  | [], done, hn, _, _ => ⟨done, rfl, hn, fun x => by simp, by simp⟩
  | t :: ts, done, hn, hl, hs => by
    obtain ⟨δ1, e1, e2⟩ := hs t (List.mem_cons_self ..)
    rw [List.length_cons] at hl
    have e3 : dcF g tYes fk (fC (.bool true)) δ0 ((t :: ts).map ε) (.oK (done.map kk)) = dcF g tYes fk (fC (.bool true)) δ0 (ts.map ε) (.oK (putD (done.map kk) (.inl ((κ2 t : Nat) : Int)) (.bool true))) := by
      rw [List.map_cons, dcF, e1]
      show (FW.calm (fk δ1)).bind _ = _
      rw [e2]
      show (gd (decide ((done.map kk).length < 16777216)) (Tr.ok (SV.oK (putD (done.map kk) (.inl ((κ2 t : Nat) : Int)) (.bool true))))).bind _ = _
      rw [decide_eq_true (by rw [List.length_map]; omega)]
      rfl
    rw [e3]
    by_cases hin : κ2 t ∈ done
    · have e4 : putD (done.map kk) (.inl ((κ2 t : Nat) : Int)) (.bool true) = done.map kk := by
        unfold putD
        rw [if_pos]
        · rw [List.map_map]
          refine List.map_congr_left fun b hb => ?_
          show (if (kk b).1 = .inl ((κ2 t : Nat) : Int) then ((kk b).1, PyData.bool true) else kk b) = kk b
          split <;> rfl
        · exact List.any_eq_true.mpr ⟨kk (κ2 t), List.mem_map.mpr ⟨_, hin, rfl⟩, decide_eq_true rfl⟩
      rw [e4]
      obtain ⟨done', h1, h2, h3, h4⟩ := dcK_ok ts done hn (by omega) fun t ht => hs t (List.mem_cons_of_mem _ ht)
      refine ⟨done', h1, h2, fun x => ?_, by rw [List.length_cons]; omega⟩
      rw [h3, List.map_cons, List.mem_cons]
      constructor
      · rintro (h | h)
        · exact .inl h
        · exact .inr (.inr h)
      · rintro (h | h | h)
        · exact .inl h
        · exact .inl (h ▸ hin)
        · exact .inr h
    · have e4 : putD (done.map kk) (.inl ((κ2 t : Nat) : Int)) (.bool true) = (done ++ [κ2 t]).map kk := by
        rw [putD_new, List.map_append]
        · rfl
        · unfold valD
          rw [Option.map_eq_none_iff, List.find?_eq_none]
          intro x hx h'
          obtain ⟨b, hb, rfl⟩ := List.mem_map.mp hx
          have := Sum.inl.inj (of_decide_eq_true h')
          have : b = κ2 t := by omega
          exact hin (this ▸ hb)
      rw [e4]
      obtain ⟨done', h1, h2, h3, h4⟩ := dcK_ok ts (done ++ [κ2 t]) (List.nodup_append.mpr ⟨hn, by simp, fun x hx y hy e => hin (by rw [← List.mem_singleton.mp hy, ← e]; exact hx)⟩) (by rw [List.length_append]; simp; omega) fun t ht => hs t (List.mem_cons_of_mem _ ht)
      refine ⟨done', h1, h2, fun x => ?_, by rw [List.length_cons]; rw [List.length_append] at h4; simp at h4; omega⟩
      rw [h3, List.mem_append, List.mem_singleton, List.map_cons, List.mem_cons]
      constructor
      · rintro ((h | h) | h)
        · exact .inl h
        · exact .inr (.inl h)
        · exact .inr (.inr h)
      · rintro (h | h | h)
        · exact .inl (.inl h)
        · exact .inl (.inr h)
        · exact .inr h
theorem intKeys_kk : ∀ l : List Nat, intKeys (l.map kk) = some (zs l)
  | [] => rfl
  | a :: l => by
    show (intKeys (l.map kk)).map ((a : Int) :: ·) = _
    rw [intKeys_kk l]; rfl
/-- tuple(sorted({..: True})) -/
theorem sdict_ok {fi : FI} {fk : FE} {g : FG} {vs : List Nat} (h : M.Ok 5) (hS : ∀ s ∈ S, s < M.tab.length) (hl : S.length < 64) (hk : k < M.K) (hi : fi δ = .ok (S.map encI)) (hs : ∀ s ∈ S, ∃ δ1, g (encI s) (wipeD δ vs) = .ok δ1 ∧ fk δ1 = .ok (.im (encI (M.st s k)))) :
    fCall gTupOf (aCons (fCall gSortDI (aCons (fDc (.oK []) fi g tYes fk (fC (.bool true)) vs) aNil)) aNil) δ = .ok (.im (encS (Mc.ts M S k))) := by
  obtain ⟨ks, e1, e2, e3, e4⟩ := dcK_ok (ε := encI) (κ2 := fun s => M.st s k) (g := g) (fk := fk) (δ0 := wipeD δ vs) S [] List.nodup_nil (by simp; omega) hs
  have ed : fDc (.oK []) fi g tYes fk (fC (.bool true)) vs δ = .ok (.oK (ks.map kk)) := by
    unfold fDc
    rw [hi, bind_ok]
    show (dcF g tYes fk (fC (.bool true)) (wipeD δ vs) (S.map encI) (.oK ([].map kk))).bind _ = _
    rw [e1]
    rfl
  refine call_ok (cons_ok (call_ok (r := .ol ((Mc.ts M S k).map encI)) (cons_ok ed rfl) ?_) rfl) rfl
  show (match intKeys (ks.map kk) with | some ks => gd (decide (ks.length < 64)) (Tr.ok (R.ol ((sortI ks).map PyData.int))) | none => Tr.no) = _
  rw [intKeys_kk]
  show gd (decide ((zs ks).length < 64)) (Tr.ok (R.ol ((sortI (zs ks)).map PyData.int))) = _
  have e5 : (zs ks).length < 64 := by unfold zs; rw [List.length_map]; simp at e4; omega
  rw [decide_eq_true e5, sortI_ts h hS hk e2 (fun x => by rw [e3]; simp), zs_D]
  rfl
end
end K36
set_option Elab.async false
set_option linter.all false
set_option maxRecDepth 100000
set_option maxHeartbeats 1000000
/-! the walks over sets: reset_word's and the law's -/
namespace K36
open PySem PySem.Spec L2 DW FW MK
section
variable {M : Mc} {B p q n k K a b s i j m z c : Nat} {δ : DEnv} {fa fb : FE} {PX : Xn → Prop} {f : List Pr} {pr : Pr} {S l w : List Nat} {Q : List Es} {e : Es}
theorem run_in : ∀ w : List Nat, (∀ s ∈ BF.runT (Mc.ts M) (Mc.al0 M) w, s < M.tab.length) ∧ (BF.runT (Mc.ts M) (Mc.al0 M) w).length ≤ M.tab.length := by
  intro w
  by_cases h : w = []
  · subst h
    exact ⟨fun s hs => List.mem_range.mp hs, by show (List.range M.tab.length).length ≤ _; rw [List.length_range]; exact Nat.le_refl _⟩
  · obtain ⟨x, d, rfl⟩ : ∃ x d, w = x ++ [d] := ⟨w.dropLast, w.getLast h, (List.dropLast_concat_getLast h).symm⟩
    rw [BF.runT_snoc]
    refine ⟨fun s hs => (ts_mem.mp hs).1, ?_⟩
    have := List.length_filter_le (fun q => decide (q ∈ (BF.runT (Mc.ts M) (Mc.al0 M) x).map fun s => M.st s d)) (List.range M.tab.length)
    rw [List.length_range] at this
    exact this
abbrev SIv (M : Mc) (Q : List Es) (k c : Nat) : Prop := BF.Iv (Mc.ts M) M.K 0 (Mc.al0 M) Q k c
theorem SIv.ent (v : SIv M Q k c) (he : e ∈ Q) : (∀ s ∈ e.1, s < M.tab.length) ∧ e.1.length ≤ M.tab.length := by
  rw [(v.run e he).1]
  exact run_in _
theorem SIv.few' (h : M.Ok 5) (v : SIv M Q k c) : Q.length ≤ 32 := by
  have h1 := v.few (U := subs (List.range M.tab.length)) fun w _ => run_subs w
  rw [subs_len, List.length_range] at h1
  have := Nat.pow_le_pow_right (show 0 < 2 by omega) h.n1
  omega
def wd (Q : List Es) : List (List Key × D) := dct (fun e : Es => e.1) (fun e => .str (tx e.2)) Q
def encE1 (e : Es) : D := encS e.1
theorem tupR1_ok {f : FE} (hf : f δ = .ok (.im (.int (n : Nat)))) (hn : n ≤ 100000) : fTupR1 f δ = .ok (.im (encS (List.range n))) := by
  unfold fTupR1
  rw [hf]
  show gd (decide ((0 : Int) ≤ ((n : Nat) : Int)) && decide (((n : Nat) : Int) ≤ 16777216)) (Tr.ok (R.im (.tuple (intsD 0 ((n : Nat) : Int).toNat)))) = _
  rw [decide_eq_true (by omega), decide_eq_true (by omega)]
  show Tr.ok (R.im (.tuple (intsD 0 ((n : Nat) : Int).toNat))) = _
  have : intsD 0 ((n : Nat) : Int).toNat = (List.range n).map encI := by
    unfold intsD
    rw [Int.toNat_natCast]
    exact List.map_congr_left fun i _ => by rw [Int.zero_add]; rfl
  rw [this]
  rfl
theorem dispT_ok {fk : FE} (hk : fk δ = .ok (.im (encS l))) : fDispT fk (fC (.str "")) δ = .ok (.oT (wd [(l, [])])) := by
  unfold fDispT
  rw [hk]
  show (match DW.keysOf (l.map encI) with | some ks => _ | none => _) = _
  rw [keysOf_kI]
  rfl
theorem lenS_ok {f : FE} (hf : f δ = .ok (.im (encS l))) : fCall gLen (aCons f aNil) δ = .ok (.im (.int (l.length : Nat))) := by
  have := lenT_ok (f := f) (δ := δ) (xs := l.map encI) hf
  rw [List.length_map] at this
  exact this
/-! the law's -/
def lE (M : Mc) (x4 x5 x6 x7 x8 x9 x10 x11 x12 x13 x14 x15 x16 x17 x18 x19 x20 x21 : Option SV) : DEnv := [none, some .drw, some (.im M.enc), some (.im (.int (M.tab.length : Nat))), x4, x5, x6, x7, x8, x9, x10, x11, x12, x13, x14, x15, x16, x17, x18, x19, x20, x21, none, none, none, none, none]
def lsB : FS := (sSq (sSetF 10 (fCall gTupOf (aCons (fSortSetI (fLc (iT (fOp gIx (fV 7) (fV 8))) (gN 24) tYes (fOp gIx (fOp gIx (fOp gIx (fV 2) (fC (.int 1))) (fV 24)) (fV 9)) [24])) aNil)))
 (sIfF (tB (fOp (gDinz true) (fV 10) (fV 6))) (sSq (sPutF 6 (fV 10) (fOp gAdd (fOp gDgz (fV 6) (fOp gIx (fV 7) (fV 8))) (fOp gIx (fOp gIx (fV 2) (fC (.int 0))) (fV 9))))
 (sAppF 7 (fV 10))) sNx))
def lsL : FS := (sWhF (tB (fOp gLt (fV 8) (fCall gLen (aCons (fV 7) aNil)))) (sSq (sForF (iR1 (aCons (fCall gLen (aCons (fOp gIx (fV 2) (fC (.int 0))) aNil)) aNil)) (gN 9) lsB)
 (sSetF 8 (fOp gAdd (fV 8) (fC (.int 1))))))
variable {x4 x5 x6 x7 x8 x9 x10 x11 x12 x13 x14 x15 x16 x17 x18 x19 x20 x21 : Option SV}
theorem ls_inner (h : M.Ok 5) (v : SIv M Q m 0) (he : Q[m]? = some e) : ∃ y9 y10, forF (gN 9) lsB ((List.range M.K).map fun i => .int (i : Nat)) (lE M x4 x5 (some (.oT (wd Q))) (some (.ol (Q.map encE1))) (some (.im (encI m))) x9 x10 x11 x12 x13 x14 x15 x16 x17 x18 x19 x20 x21) =
    .ok (.nx (lE M x4 x5 (some (.oT (wd (BF.expN (Mc.ts M) 0 e Q M.K)))) (some (.ol ((BF.expN (Mc.ts M) 0 e Q M.K).map encE1))) (some (.im (encI m))) y9 y10 x11 x12 x13 x14 x15 x16 x17 x18 x19 x20 x21)) := by
  obtain ⟨δ', e1, y9, y10, e2⟩ := forF_ix0 (g := gN 9) (b := lsB) (δ := lE M x4 x5 (some (.oT (wd Q))) (some (.ol (Q.map encE1))) (some (.im (encI m))) x9 x10 x11 x12 x13 x14 x15 x16 x17 x18 x19 x20 x21)
    (fun c δ => ∃ y9 y10, δ = lE M x4 x5 (some (.oT (wd (BF.expN (Mc.ts M) 0 e Q c)))) (some (.ol ((BF.expN (Mc.ts M) 0 e Q c).map encE1))) (some (.im (encI m))) y9 y10 x11 x12 x13 x14 x15 x16 x17 x18 x19 x20 x21) ((List.range M.K).map fun i => .int (i : Nat)) ⟨x9, x10, rfl⟩ (by
      rintro c d δ hd ⟨y9, y10, rfl⟩
      obtain ⟨hc, rfl⟩ := range_at hd
      obtain ⟨v1, he1⟩ := v.stepN he c (by omega)
      have few := SIv.few' h v1
      have hl := v1.len m e he1
      have hm := (List.getElem?_eq_some_iff.mp he1).1
      have n1 := h.n1
      have hin := List.mem_of_getElem? he1
      obtain ⟨g1, g2⟩ := SIv.ent v1 hin
      have nd : ((BF.expN (Mc.ts M) 0 e Q c).map fun e : Es => e.1).Nodup := v1.nd
      have es : BF.expN (Mc.ts M) 0 e Q (c + 1) = BF.exp1 (Mc.ts M) 0 e (BF.expN (Mc.ts M) 0 e Q c) c := rfl
      rw [es]
      unfold BF.exp1
      generalize BF.expN (Mc.ts M) 0 e Q c = P at v1 he1 few nd hm hin ⊢
      have eo : ∀ {y10 : Option SV}, fOp gIx (fV 7) (fV 8) (lE M x4 x5 (some (.oT (wd P))) (some (.ol (P.map encE1))) (some (.im (encI m))) (some (.im (encI c))) y10 x11 x12 x13 x14 x15 x16 x17 x18 x19 x20 x21) = .ok (.im (encS e.1)) := op_ok rfl rfl (ix_bl (d := encE1 e) (by rw [List.getElem?_map, he1]; rfl))
      have e10 : sSetF 10 (fCall gTupOf (aCons (fSortSetI (fLc (iT (fOp gIx (fV 7) (fV 8))) (gN 24) tYes (fOp gIx (fOp gIx (fOp gIx (fV 2) (fC (.int 1))) (fV 24)) (fV 9)) [24])) aNil)) (lE M x4 x5 (some (.oT (wd P))) (some (.ol (P.map encE1))) (some (.im (encI m))) (some (.im (encI c))) y10 x11 x12 x13 x14 x15 x16 x17 x18 x19 x20 x21) =
          .ok (.nx (lE M x4 x5 (some (.oT (wd P))) (some (.ol (P.map encE1))) (some (.im (encI m))) (some (.im (encI c))) (some (.im (encS (Mc.ts M e.1 c)))) x11 x12 x13 x14 x15 x16 x17 x18 x19 x20 x21)) := by
        refine set_ok (sset_ok h g1 (by omega) hc ?_) rfl
        rw [List.map_map]
        refine flc_ok (e := encI) (h := encI ∘ fun s => M.st s c) (ts := e.1) ?_ (by omega) fun s hs => ⟨_, _, rfl, cell_ok h (g1 s hs) hc rfl rfl rfl, rfl⟩
        unfold iT
        rw [eo]
        rfl
      have et : tB (fOp (gDinz true) (fV 10) (fV 6)) (lE M x4 x5 (some (.oT (wd P))) (some (.ol (P.map encE1))) (some (.im (encI m))) (some (.im (encI c))) (some (.im (encS (Mc.ts M e.1 c)))) x11 x12 x13 x14 x15 x16 x17 x18 x19 x20 x21) = .ok (!decide (Mc.ts M e.1 c ∈ P.map fun e : Es => e.1)) := tB_ok (dinT_ok rfl rfl)
      have ek : BF.keys 0 P = P.map fun e : Es => e.1 := rfl
      rw [ek]
      by_cases hmm : Mc.ts M e.1 c ∈ P.map fun e : Es => e.1
      · rw [if_pos hmm]
        exact ⟨_, _, rfl, (sq_nx e10).trans ((if_f (by rw [et, decide_eq_true hmm]; rfl)).trans rfl), _, _, rfl⟩
      · rw [if_neg hmm]
        refine ⟨_, _, rfl, (sq_nx e10).trans ((if_t (by rw [et, decide_eq_false hmm]; rfl)).trans ((sq_nx (put_ok rfl (add_S (dgT_ok (kf := fun e : Es => e.1) (ν := fun e => .str (tx e.2)) nd hin rfl eo) (op_ok (op_ok rfl rfl rfl) rfl (al_at h hc)) (by show e.2.length + 1 ≤ _; omega)) rfl rfl (putT_ok (kf := fun e : Es => e.1) (ν := fun e => .str (tx e.2)) (e := (Mc.ts M e.1 c, e.2 ++ [c])) hmm (by omega)))).trans (app_ok (d := encE1 (Mc.ts M e.1 c, e.2 ++ [c])) (xs := P.map encE1) rfl rfl rfl (by rw [List.length_map]; omega)))), some (.im (encI c)), some (.im (encS (Mc.ts M e.1 c))), ?_⟩
        unfold wd
        rw [List.map_append (f := encE1)]
        rfl)
  subst e2
  rw [List.length_map, List.length_range] at e1
  exact ⟨y9, y10, e1⟩
theorem lsL_ok (h : M.Ok 5) (ke : SEnd M k) : ∃ y8 y9 y10, lsL (lE M x4 x5 (some (.oT (wd [(Mc.al0 M, [])]))) (some (.ol [encS (Mc.al0 M)])) (some (.im (encI 0))) x9 x10 x11 x12 x13 x14 x15 x16 x17 x18 x19 x20 x21) =
    .ok (.nx (lE M x4 x5 (some (.oT (wd (Qs M k)))) (some (.ol ((Qs M k).map encE1))) y8 y9 y10 x11 x12 x13 x14 x15 x16 x17 x18 x19 x20 x21)) := by
  have hK : 0 < M.K ∧ M.K ≤ 3 := by have := h.k; omega
  have hle := SEnd.small h ke
  obtain ⟨δ', e1, y8, y9, y10, e2⟩ := wh_ok (t := tB (fOp gLt (fV 8) (fCall gLen (aCons (fV 7) aNil)))) (b := sSq (sForF (iR1 (aCons (fCall gLen (aCons (fOp gIx (fV 2) (fC (.int 0))) aNil)) aNil)) (gN 9) lsB) (sSetF 8 (fOp gAdd (fV 8) (fC (.int 1)))))
    (fun m δ => m ≤ k ∧ ∃ y9 y10, δ = lE M x4 x5 (some (.oT (wd (Qs M m)))) (some (.ol ((Qs M m).map encE1))) (some (.im (encI m))) y9 y10 x11 x12 x13 x14 x15 x16 x17 x18 x19 x20 x21)
    (fun δ => ∃ y8 y9 y10, δ = lE M x4 x5 (some (.oT (wd (Qs M k)))) (some (.ol ((Qs M k).map encE1))) y8 y9 y10 x11 x12 x13 x14 x15 x16 x17 x18 x19 x20 x21) k (by
      rintro m δ ⟨hm, y9, y10, rfl⟩
      have tst : tB (fOp gLt (fV 8) (fCall gLen (aCons (fV 7) aNil))) (lE M x4 x5 (some (.oT (wd (Qs M m)))) (some (.ol ((Qs M m).map encE1))) (some (.im (encI m))) y9 y10 x11 x12 x13 x14 x15 x16 x17 x18 x19 x20 x21) = .ok (decide (m < ((Qs M m).map encE1).length)) := lt_ok rfl (call_ok (cons_ok rfl rfl) rfl)
      rw [List.length_map] at tst
      by_cases hlt : m < k
      · have hl := ke.lt m hlt
        have he := List.getElem?_eq_getElem hl
        have v := BF.Qk_iv (T := Mc.ts M) (s := Mc.al0 M) (z := 0) (by omega) hK.1 m (by omega)
        obtain ⟨z9, z10, e3⟩ := ls_inner h v he (x4 := x4) (x5 := x5) (x9 := y9) (x10 := y10) (x11 := x11) (x12 := x12) (x13 := x13) (x14 := x14) (x15 := x15) (x16 := x16) (x17 := x17) (x18 := x18) (x19 := x19) (x20 := x20) (x21 := x21)
        rw [← BF.Qk_step he] at e3
        exact .inr ⟨hlt, by rw [tst, decide_eq_true hl], lE M x4 x5 (some (.oT (wd (Qs M (m + 1))))) (some (.ol ((Qs M (m + 1)).map encE1))) (some (.im (encI (m + 1)))) z9 z10 x11 x12 x13 x14 x15 x16 x17 x18 x19 x20 x21, (sq_nx (for_ok (R1_ok (m := M.K) (cons_ok (lenK_ok h rfl) rfl) (by omega)) e3)).trans rfl, hlt, _, _, rfl⟩
      · have e : m = k := by omega
        subst e
        exact .inl ⟨by rw [tst, ke.len, decide_eq_false (Nat.lt_irrefl _)], _, _, _, rfl⟩)
    fuel 0 _ ⟨Nat.zero_le _, x9, x10, rfl⟩ (Nat.zero_le _) (by unfold fuel; omega)
  subst e2
  exact ⟨y8, y9, y10, e1⟩
/-! reset_word's: it stops at the first set of one state -/
def rE (M : Mc) (x1 : Option SV) (Q w : List Es) (x5 x6 x7 x8 : Option SV) : DEnv := [some (.im M.enc), x1, some (.im (encS (Mc.al0 M))), some (.oT (wd Q)), some (.ol (w.map encE1)), x5, x6, x7, x8, none, none, none]
def rB : FS := (sSq (sSetF 8 (fCall gTupOf (aCons (fCall gSortDI (aCons (fDc (.oK []) (iT (fV 5)) (gN 11) tYes (fOp gIx (fOp gIx (fOp gIx (fV 0) (fC (.int 1))) (fV 11)) (fV 6)) (fC (.bool true)) [11]) aNil)) aNil)))
 (sIfF (tB (fOp (gDinz true) (fV 8) (fV 3))) (sSq (sPutF 3 (fV 8) (fOp gAdd (fOp gDgz (fV 3) (fV 5)) (fV 7)))
 (sAppF 4 (fV 8))) sNx))
def rG : FG := gTup 2 (gsCons (gN 6) (gsCons (gN 7) gsNil))
variable {x1 : Option SV}
theorem r_inner (h : M.Ok 5) (v : SIv M Q m 0) (he : Q[m]? = some e) : ∃ y6 y7 y8, forF rG rB ((List.range M.K).map fun i => .tuple [.int (i : Nat), .str (tx [i])]) (rE M x1 Q (Q.drop (m + 1)) (some (.im (encS e.1))) x6 x7 x8) =
    .ok (.nx (rE M x1 (BF.expN (Mc.ts M) 0 e Q M.K) ((BF.expN (Mc.ts M) 0 e Q M.K).drop (m + 1)) (some (.im (encS e.1))) y6 y7 y8)) := by
  obtain ⟨δ', e1, y6, y7, y8, e2⟩ := forF_ix0 (g := rG) (b := rB) (δ := rE M x1 Q (Q.drop (m + 1)) (some (.im (encS e.1))) x6 x7 x8)
    (fun c δ => ∃ y6 y7 y8, δ = rE M x1 (BF.expN (Mc.ts M) 0 e Q c) ((BF.expN (Mc.ts M) 0 e Q c).drop (m + 1)) (some (.im (encS e.1))) y6 y7 y8) ((List.range M.K).map fun i => .tuple [.int (i : Nat), .str (tx [i])]) ⟨x6, x7, x8, rfl⟩ (by
      rintro c d δ hd ⟨y6, y7, y8, rfl⟩
      obtain ⟨hc, rfl⟩ := range_at hd
      obtain ⟨v1, he1⟩ := v.stepN he c (by omega)
      have few := SIv.few' h v1
      have hl := v1.len m e he1
      have hm := (List.getElem?_eq_some_iff.mp he1).1
      have n1 := h.n1
      have hin := List.mem_of_getElem? he1
      obtain ⟨g1, g2⟩ := SIv.ent v1 hin
      have nd : ((BF.expN (Mc.ts M) 0 e Q c).map fun e : Es => e.1).Nodup := v1.nd
      have es : BF.expN (Mc.ts M) 0 e Q (c + 1) = BF.exp1 (Mc.ts M) 0 e (BF.expN (Mc.ts M) 0 e Q c) c := rfl
      rw [es]
      unfold BF.exp1
      generalize BF.expN (Mc.ts M) 0 e Q c = P at v1 he1 few nd hm hin ⊢
      have e8 : sSetF 8 (fCall gTupOf (aCons (fCall gSortDI (aCons (fDc (.oK []) (iT (fV 5)) (gN 11) tYes (fOp gIx (fOp gIx (fOp gIx (fV 0) (fC (.int 1))) (fV 11)) (fV 6)) (fC (.bool true)) [11]) aNil)) aNil)) (rE M x1 P (P.drop (m + 1)) (some (.im (encS e.1))) (some (.im (encI c))) (some (.im (.str (tx [c])))) y8) =
          .ok (.nx (rE M x1 P (P.drop (m + 1)) (some (.im (encS e.1))) (some (.im (encI c))) (some (.im (.str (tx [c])))) (some (.im (encS (Mc.ts M e.1 c)))))) :=
        set_ok (sdict_ok h g1 (by omega) hc rfl fun s hs => ⟨_, rfl, cell_ok h (g1 s hs) hc rfl rfl rfl⟩) rfl
      have et : tB (fOp (gDinz true) (fV 8) (fV 3)) (rE M x1 P (P.drop (m + 1)) (some (.im (encS e.1))) (some (.im (encI c))) (some (.im (.str (tx [c])))) (some (.im (encS (Mc.ts M e.1 c))))) = .ok (!decide (Mc.ts M e.1 c ∈ P.map fun e : Es => e.1)) := tB_ok (dinT_ok rfl rfl)
      have ek : BF.keys 0 P = P.map fun e : Es => e.1 := rfl
      rw [ek]
      by_cases hmm : Mc.ts M e.1 c ∈ P.map fun e : Es => e.1
      · rw [if_pos hmm]
        exact ⟨_, _, rfl, (sq_nx e8).trans ((if_f (by rw [et, decide_eq_true hmm]; rfl)).trans rfl), _, _, _, rfl⟩
      · rw [if_neg hmm, drop_snoc (by omega)]
        refine ⟨_, _, rfl, (sq_nx e8).trans ((if_t (by rw [et, decide_eq_false hmm]; rfl)).trans ((sq_nx (put_ok rfl (add_S (dgT_ok (kf := fun e : Es => e.1) (ν := fun e => .str (tx e.2)) nd hin rfl rfl) rfl (by show e.2.length + 1 ≤ _; omega)) rfl rfl (putT_ok (kf := fun e : Es => e.1) (ν := fun e => .str (tx e.2)) (e := (Mc.ts M e.1 c, e.2 ++ [c])) hmm (by omega)))).trans (app_ok (d := encE1 (Mc.ts M e.1 c, e.2 ++ [c])) (xs := (P.drop (m + 1)).map encE1) rfl rfl rfl (by rw [List.length_map, List.length_drop]; omega)))), some (.im (encI c)), some (.im (.str (tx [c]))), some (.im (encS (Mc.ts M e.1 c))), ?_⟩
        unfold rE wd
        rw [List.map_append (f := encE1)]
        rfl)
  subst e2
  rw [List.length_map, List.length_range] at e1
  exact ⟨y6, y7, y8, e1⟩
/-- a while that returns at turn N -/
theorem wh_ret {t : FT} {b : FS} {r : R} (Inv : Nat → DEnv → Prop) (N : Nat) (hs : ∀ n δ, n < N → Inv n δ → t δ = .ok true ∧ ∃ δ', b δ = .ok (.nx δ') ∧ Inv (n + 1) δ') (hN : ∀ δ, Inv N δ → t δ = .ok true ∧ b δ = .ok (.rt r)) :
    ∀ (f n : Nat) (δ : DEnv), Inv n δ → n ≤ N → N - n < f → whF t b f δ = .ok (.rt r)
  | 0, n, δ, _, _, h => absurd h (Nat.not_lt_zero _)
  | f + 1, n, δ, hi, hn, hf => by
    by_cases e : n = N
    · subst e
      obtain ⟨h1, h2⟩ := hN δ hi
      rw [whF, h1]
      show (b δ).bind _ = _
      rw [h2]
      rfl
    · obtain ⟨h1, δ', h2, h3⟩ := hs n δ (by omega) hi
      rw [whF, h1]
      show (b δ).bind _ = _
      rw [h2]
      exact wh_ret Inv N hs hN f (n + 1) δ' h3 (by omega) (by omega)
def rL : FS := (sWhF (tTruF (fV 4)) (sSq (sPop0F 4 (gN 5))
 (sSq (sIfF (tB (fOp gEq (fCall gLen (aCons (fV 5) aNil)) (fC (.int 1)))) (sRetF (fTup (aCons (fC (.str "word")) (aCons (fOp gDgz (fV 3) (fV 5)) aNil)))) sNx)
 (sForF (iEG (aCons (fOp gIx (fV 0) (fC (.int 0))) aNil)) rG rB))))
theorem eqlen1 {f : FE} {l : List Nat} (hf : f δ = .ok (.im (encS l))) : tB (fOp gEq (fCall gLen (aCons f aNil)) (fC (.int 1))) δ = .ok (decide (l.length = 1)) := tB_ok (eq_nat (b := 1) (lenS_ok hf) rfl)
theorem rL_ok (h : M.Ok 5) (ke : SEnd M k) (hi : i < k) (he : (Qs M k)[i]? = some e) (h1 : e.1.length = 1) (hf : ∀ j e', j < i → (Qs M k)[j]? = some e' → e'.1.length ≠ 1)
    (pre : ∀ j m, j < m → m ≤ k → (Qs M m)[j]? = (Qs M k)[j]?) : rL (rE M x1 [(Mc.al0 M, [])] [(Mc.al0 M, [])] none none none none) = .ok (.rt (.im (.tuple [.str (tx [22, 14, 17, 3]), .str (tx e.2)]))) := by
  have hK : 0 < M.K ∧ M.K ≤ 3 := by have := h.k; omega
  have hle := SEnd.small h ke
  refine wh_ret (t := tTruF (fV 4)) (b := sSq (sPop0F 4 (gN 5))
 (sSq (sIfF (tB (fOp gEq (fCall gLen (aCons (fV 5) aNil)) (fC (.int 1)))) (sRetF (fTup (aCons (fC (.str "word")) (aCons (fOp gDgz (fV 3) (fV 5)) aNil)))) sNx)
 (sForF (iEG (aCons (fOp gIx (fV 0) (fC (.int 0))) aNil)) rG rB)))
    (fun m δ => ∃ y5 y6 y7 y8, δ = rE M x1 (Qs M m) ((Qs M m).drop m) y5 y6 y7 y8) i ?_ ?_ fuel 0 _ ⟨none, none, none, none, rfl⟩ (Nat.zero_le _) (by unfold fuel; omega)
  · rintro m δ hm ⟨y5, y6, y7, y8, rfl⟩
    have hl := ke.lt m (by omega)
    have he' := List.getElem?_eq_getElem hl
    have hd : (Qs M m).drop m = (Qs M m)[m] :: (Qs M m).drop (m + 1) := List.drop_eq_getElem_cons hl
    have v := BF.Qk_iv (T := Mc.ts M) (s := Mc.al0 M) (z := 0) (by omega) hK.1 m (by omega)
    obtain ⟨z6, z7, z8, e3⟩ := r_inner h v he' (x1 := x1) (x6 := y6) (x7 := y7) (x8 := y8)
    rw [← BF.Qk_step he'] at e3
    have hne : ((Qs M m)[m]).1.length ≠ 1 := by
      have h2 : (Qs M (m + 1))[m]? = some (Qs M m)[m] := by
        rw [show Qs M (m + 1) = BF.expN (Mc.ts M) 0 (Qs M m)[m] (Qs M m) M.K from BF.Qk_step he']
        exact (v.stepN he' M.K (Nat.le_refl _)).2
      exact hf m _ hm (by rw [← pre m (m + 1) (Nat.lt_succ_self _) (by omega), h2])
    refine ⟨by rw [tr_ol rfl, hd]; rfl, _, (sq_nx (δ' := rE M x1 (Qs M m) ((Qs M m).drop (m + 1)) (some (.im (encS (Qs M m)[m].1))) y6 y7 y8) ?_).trans ((sq_nx ((if_f ((eqlen1 rfl).trans (by rw [decide_eq_false hne]))).trans rfl)).trans (for_ok (en_ok hK.2 rfl) e3)), _, _, _, _, rfl⟩
    rw [hd]
    rfl
  · rintro δ ⟨y5, y6, y7, y8, rfl⟩
    have hl := ke.lt i hi
    have hd : (Qs M i).drop i = (Qs M i)[i] :: (Qs M i).drop (i + 1) := List.drop_eq_getElem_cons hl
    have he' := List.getElem?_eq_getElem hl
    have v := BF.Qk_iv (T := Mc.ts M) (s := Mc.al0 M) (z := 0) (by omega) hK.1 i (by omega)
    have ee : (Qs M i)[i] = e := by
      have h2 : (Qs M (i + 1))[i]? = some (Qs M i)[i] := by
        rw [show Qs M (i + 1) = BF.expN (Mc.ts M) 0 (Qs M i)[i] (Qs M i) M.K from BF.Qk_step he']
        exact (v.stepN he' M.K (Nat.le_refl _)).2
      rw [pre i (i + 1) (Nat.lt_succ_self _) (by omega), he] at h2
      exact (Option.some.inj h2).symm
    rw [hd, ee]
    have nd : ((Qs M i).map fun e : Es => e.1).Nodup := v.nd
    have hin : e ∈ Qs M i := by rw [← ee]; exact List.getElem_mem hl
    exact ⟨tr_ol (xs := encE1 e :: ((Qs M i).drop (i + 1)).map encE1) rfl, (sq_nx (δ' := rE M x1 (Qs M i) ((Qs M i).drop (i + 1)) (some (.im (encS e.1))) y6 y7 y8) rfl).trans (sq_rt ((if_t ((eqlen1 rfl).trans (by rw [decide_eq_true h1]))).trans (ret_ok (tup2 (cons_ok rfl (cons_ok (dgT_ok (kf := fun e : Es => e.1) (ν := fun e => .str (tx e.2)) nd hin rfl rfl) rfl))))))⟩
end
end K36
set_option Elab.async false
set_option linter.all false
set_option maxRecDepth 100000
set_option maxHeartbeats 1000000
/-! the order of words; sorted rows -/
namespace K36
open PySem PySem.Spec L2 DW FW MK
open PySem.W (alike dataLt dataLe AllAlike)
section
variable {M : Mc} {B p q n k K a b s i j m z c : Nat} {δ : DEnv} {fa fb : FE} {PX : Xn → Prop} {f : List Pr} {pr : Pr} {S l w u v : List Nat} {Q : List Es} {e : Es}
def numA (K acc : Nat) (l : List Nat) : Nat := l.foldl (fun a c => K * a + 1 + c) acc
theorem numA_mono : ∀ (u v : List Nat) (x y : Nat), x < y → u.length = v.length → (∀ c ∈ u, c < K) → numA K x u < numA K y v
  | [], [], x, y, h, _, _ => h
  | [], _ :: _, _, _, _, h, _ => by cases h
  | _ :: _, [], _, _, _, h, _ => by cases h
  | a :: u, b :: v, x, y, h, hl, hu => by
    show numA K (K * x + 1 + a) u < numA K (K * y + 1 + b) v
    refine numA_mono u v _ _ ?_ (by simpa using hl) fun c hc => hu c (List.mem_cons_of_mem _ hc)
    have h1 := hu a (List.mem_cons_self ..)
    have h2 : K * (x + 1) ≤ K * y := Nat.mul_le_mul_left _ h
    rw [Nat.mul_add] at h2
    omega
theorem lexnum : ∀ (u v : List Nat) (x : Nat), u.length = v.length → (∀ c ∈ u, c < K) → (∀ c ∈ v, c < K) → numA K x u < numA K x v → u.map (97 + ·) < v.map (97 + ·)
  | [], [], x, _, _, _, h => absurd h (Nat.lt_irrefl _)
  | [], _ :: _, _, h, _, _, _ => by cases h
  | _ :: _, [], _, h, _, _, _ => by cases h
  | a :: u, b :: v, x, hl, hu, hv, h => by
    have h : numA K (K * x + 1 + a) u < numA K (K * x + 1 + b) v := h
    have hl2 : u.length = v.length := by simpa using hl
    rw [List.map_cons, List.map_cons, List.cons_lt_cons_iff]
    rcases Nat.lt_trichotomy a b with h1 | h1 | h1
    · exact .inl (by show 97 + a < 97 + b; omega)
    · subst h1
      exact .inr ⟨rfl, lexnum u v _ hl2 (fun c hc => hu c (List.mem_cons_of_mem _ hc)) (fun c hc => hv c (List.mem_cons_of_mem _ hc)) h⟩
    · have := numA_mono (K := K) v u (K * x + 1 + b) (K * x + 1 + a) (by omega) hl2.symm fun c hc => hv c (List.mem_cons_of_mem _ hc)
      omega
def cc (K : Nat) : Nat → Nat
  | 0 => 0
  | m + 1 => K * cc K m + 1
theorem num_bd : ∀ (n : Nat) (u : List Nat), u.length = n → (∀ c ∈ u, c < K) → cc K n ≤ num K u ∧ num K u < cc K (n + 1) := by
  intro n
  induction n with
  | zero =>
    intro u h _
    rw [List.length_eq_zero_iff.mp h]
    exact ⟨Nat.le_refl _, by show 0 < K * 0 + 1; omega⟩
  | succ n ih =>
    intro u h hu
    have h0 : u ≠ [] := fun e => by rw [e] at h; cases h
    obtain ⟨x, d, rfl⟩ : ∃ x d, u = x ++ [d] := ⟨u.dropLast, u.getLast h0, (List.dropLast_concat_getLast h0).symm⟩
    rw [List.length_append] at h
    have h : x.length + 1 = n + 1 := h
    obtain ⟨h1, h2⟩ := ih x (by omega) fun c hc => hu c (List.mem_append_left _ hc)
    have hd := hu d (List.mem_append_right _ (List.mem_singleton.mpr rfl))
    rw [num_snoc]
    have e1 : cc K (n + 1) = K * cc K n + 1 := rfl
    have e2 : cc K (n + 1 + 1) = K * cc K (n + 1) + 1 := rfl
    have h3 : K * cc K n ≤ K * num K x := Nat.mul_le_mul_left _ h1
    have h4 : K * (num K x + 1) ≤ K * cc K (n + 1) := Nat.mul_le_mul_left _ h2
    rw [Nat.mul_add] at h4
    rw [e1, e2]
    omega
theorem cc_mono (hK : 0 < K) : ∀ d m, cc K m ≤ cc K (m + d)
  | 0, m => Nat.le_refl _
  | d + 1, m => by
    have h1 := cc_mono hK d m
    have h2 : cc K (m + d) ≤ K * cc K (m + d) := Nat.le_mul_of_pos_left _ hK
    show cc K m ≤ K * cc K (m + d) + 1
    omega
theorem num_len (hK : 0 < K) (hu : ∀ c ∈ u, c < K) (hv : ∀ c ∈ v, c < K) (h : num K u < num K v) : u.length ≤ v.length := by
  rcases Nat.lt_or_ge v.length u.length with g | g
  · have h1 := (num_bd u.length u rfl hu).1
    have h2 := (num_bd v.length v rfl hv).2
    have h3 := cc_mono (K := K) hK (u.length - (v.length + 1)) (v.length + 1)
    rw [show v.length + 1 + (u.length - (v.length + 1)) = u.length by omega] at h3
    omega
  · exact g
/-- a word with its length -/
def encR (w : List Nat) : D := .tuple [.int (w.length : Nat), .str (tx w)]
theorem kt_R : PySem.W.keyToks (encR w) = [Sum.inl 1, Sum.inl ((w.length : Nat) : Int), Sum.inl 1, Sum.inr (w.map (97 + ·)), Sum.inl 0] := by
  unfold encR
  simp [PySem.W.keyToks, PySem.W.keyToksAll]
  exact tx_cps
theorem lex_cons {O : PyProof.Rows.KeyOrd} {a b : O.α} {x y : List O.α} : PyProof.Rows.lexLt O (a :: x) (b :: y) = (O.blt a b || !O.blt b a && PyProof.Rows.lexLt O x y) := rfl
theorem le_R (hK : 0 < K) (hu : ∀ c ∈ u, c < K) (hv : ∀ c ∈ v, c < K) (h : num K u < num K v) : dataLe false (fun d : D => d) (encR u) (encR v) = true := by
  have hl := num_len hK hu hv h
  show (!PyProof.Rows.lexLt PyProof.Rows.itemOrd (PySem.W.keyToks (encR v)) (PySem.W.keyToks (encR u))) = true
  rw [kt_R, kt_R]
  have e1 : ∀ i j : Int, PyProof.Rows.itemLt (Sum.inl i) (Sum.inl j) = decide (i < j) := fun _ _ => rfl
  have e2 : ∀ x y : List Nat, PyProof.Rows.itemLt (Sum.inr x) (Sum.inr y) = decide (x < y) := fun _ _ => rfl
  rw [lex_cons, lex_cons, lex_cons, lex_cons]
  simp only [e1, e2]
  by_cases g : u.length = v.length
  · have h2 := lexnum u v 0 g hu hv h
    have h3 : ¬ v.map (97 + ·) < u.map (97 + ·) := fun z => List.lt_irrefl (u.map (97 + ·)) (List.lt_trans h2 z)
    rw [g, decide_eq_false h3, decide_eq_true h2]
    simp
  · have h2 : ((u.length : Nat) : Int) < ((v.length : Nat) : Int) := by omega
    have h3 : ¬ ((v.length : Nat) : Int) < ((u.length : Nat) : Int) := by omega
    rw [decide_eq_false h3, decide_eq_true h2]
    simp
theorem sort_id {ds : List D} (hb : sortB ds = true) (hp : ds.Pairwise fun a b => dataLe false (fun d : D => d) a b = true) : gSortD [.ol ds] = .ok (.ol ds) := by
  show gd (sortB ds) (Tr.ok (R.ol (ds.mergeSort (dataLe false fun d => d)))) = _
  rw [hb, List.mergeSort_of_pairwise hp]
  rfl
theorem canAll {ds : List D} (h : ∀ d ∈ ds, d.canLay0 = true) : PyData.canLayAll0 ds = true := by
  induction ds with
  | nil => rfl
  | cons d r ih =>
    rw [PyData.canLayAll0, h d (List.mem_cons_self ..), ih fun x hx => h x (List.mem_cons_of_mem _ hx)]
    rfl
theorem sortB_of {ds : List D} (h1 : ∀ d ∈ ds, isTup1 d = true) (h2 : ∀ d ∈ ds, ∀ e ∈ ds, alike d e = true) (h3 : ∀ d ∈ ds, d.canLay0 = true) (h4 : ∀ d ∈ ds, d.depth ≤ 60) : sortB ds = true := by
  unfold sortB
  rw [Bool.and_eq_true, Bool.and_eq_true, Bool.and_eq_true, Bool.or_eq_true]
  exact ⟨⟨⟨.inl (List.all_eq_true.mpr h1), List.all_eq_true.mpr fun d hd => List.all_eq_true.mpr (h2 d hd)⟩, canAll h3⟩, List.all_eq_true.mpr fun d hd => decide_eq_true (h4 d hd)⟩
theorem rank_ok {ws : List (List Nat)} (hK : 0 < K) (hK3 : K ≤ 3) (hl : ws.length ≤ 1000) (hw : ∀ w ∈ ws, w.length ≤ 1000 ∧ ∀ c ∈ w, c < K) (hp : ws.Pairwise fun u v => num K u < num K v) : F__law_rank [.im (.list (ws.map fun w => .str (tx w)))] = .ok (.ol (ws.map fun w => .str (tx w))) := by
  have e1 : fLc (iL (fV 0)) (gN 2) tYes (fTup (aCons (fCall gLen (aCons (fV 2) aNil)) (aCons (fV 2) aNil))) [2] [some (.im (.list (ws.map fun w => .str (tx w)))), none, none] = .ok (.ol (ws.map encR)) :=
    flc_ok (e := fun w => .str (tx w)) (h := encR) (ts := ws) rfl (by omega) fun w hw' => ⟨_, _, rfl, tup2 (cons_ok (len_tx' (by have := (hw w hw').1; omega) rfl) rfl), rfl⟩
  have sm : ∀ w ∈ ws, Sm w := fun w hw' c hc => by have := (hw w hw').2 c hc; omega
  have eb : sortB (ws.map encR) = true := by
    refine sortB_of (fun d hd => ?_) (fun d hd e he => ?_) (fun d hd => ?_) fun d hd => ?_
    · obtain ⟨w, _, rfl⟩ := List.mem_map.mp hd; rfl
    · obtain ⟨w, _, rfl⟩ := List.mem_map.mp hd
      obtain ⟨x, _, rfl⟩ := List.mem_map.mp he
      unfold encR
      simp [PySem.W.alike, PySem.W.alikeAll]
    · obtain ⟨w, hw', rfl⟩ := List.mem_map.mp hd
      unfold encR
      simp [PyData.canLay0, PyData.canLayAll0, okTx (sm w hw')]
    · obtain ⟨w, _, rfl⟩ := List.mem_map.mp hd
      unfold encR
      simp [PyData.depth, PyData.depthAll]
  have es := sort_id eb (List.Pairwise.map encR (fun u v h => h) ((List.Pairwise.and_mem.mp hp).imp fun {u v} ⟨hu, hv, h⟩ => le_R hK (hw u hu).2 (hw v hv).2 h))
  refine fn_ok (ret_ok (flc_ok (e := encR) (h := fun w => .str (tx w)) (ts := ws) ?_ (by omega) fun w _ => ⟨_, _, rfl, rfl, rfl⟩)) rfl
  unfold iLb
  exact (congrArg (fun t : Tr R => t.bind fun r => ofO r.lst) (call_ok (cons_ok e1 rfl) es)).trans rfl
/-! pairs in their order -/
theorem prs_pw (h : n ≤ 5) : ((prs n).map encQ).Pairwise fun a b => dataLe false (fun d : D => d) a b = true := by
  have : n = 0 ∨ n = 1 ∨ n = 2 ∨ n = 3 ∨ n = 4 ∨ n = 5 := by omega
  rcases this with rfl | rfl | rfl | rfl | rfl | rfl <;> decide +kernel
theorem sortQ {c : Pr → Bool} (h : n ≤ 5) : gSortD [.ol (((prs n).filter c).map encQ)] = .ok (.ol (((prs n).filter c).map encQ)) := by
  refine sort_id (sortB_of (fun d hd => ?_) (fun d hd e he => ?_) (fun d hd => ?_) fun d hd => ?_) ?_
  · obtain ⟨w, _, rfl⟩ := List.mem_map.mp hd; rfl
  · obtain ⟨w, _, rfl⟩ := List.mem_map.mp hd
    obtain ⟨x, _, rfl⟩ := List.mem_map.mp he
    unfold encQ encI
    simp [PySem.W.alike, PySem.W.alikeAll]
  · obtain ⟨w, _, rfl⟩ := List.mem_map.mp hd
    unfold encQ encI
    simp [PyData.canLay0, PyData.canLayAll0]
  · obtain ⟨w, _, rfl⟩ := List.mem_map.mp hd
    unfold encQ encI
    simp [PyData.depth, PyData.depthAll]
  · exact List.Pairwise.sublist (List.Sublist.map _ List.filter_sublist) (prs_pw h)
end
end K36
set_option Elab.async false
set_option linter.all false
set_option maxRecDepth 100000
set_option maxHeartbeats 1000000
/-! which pairs merge; reset_word -/
namespace BF
section
variable {α : Type} [DecidableEq α] {T : α → Nat → α} {K : Nat} {s : α} {z i j n c k m : Nat} {Q : List (α × List Nat)} {e : α × List Nat}
theorem expN_pre : ∀ c, ∃ t, expN T z e Q c = Q ++ t
  | 0 => ⟨[], (List.append_nil _).symm⟩
  | c + 1 => by
    obtain ⟨t, h⟩ := expN_pre c
    show ∃ t, exp1 T z e (expN T z e Q c) c = Q ++ t
    unfold exp1
    split
    · exact ⟨t, h⟩
    · rw [h]
      exact ⟨_, List.append_assoc ..⟩
theorem Qk_pre : ∀ d m, ∃ t, Qk T K z s (m + d) = Qk T K z s m ++ t
  | 0, m => ⟨[], (List.append_nil _).symm⟩
  | d + 1, m => by
    obtain ⟨t, h⟩ := Qk_pre d m
    show ∃ t, (match (Qk T K z s (m + d))[m + d]? with
      | some e => expN T z e (Qk T K z s (m + d)) K
      | none => Qk T K z s (m + d)) = Qk T K z s m ++ t
    split
    · rename_i e _
      obtain ⟨t2, h2⟩ := expN_pre (T := T) (z := z) (e := e) (Q := Qk T K z s (m + d)) K
      rw [h2, h]
      exact ⟨_, List.append_assoc ..⟩
    · exact ⟨t, h⟩
theorem Qk_at (h : m ≤ k) (hj : j < (Qk T K z s m).length) : (Qk T K z s m)[j]? = (Qk T K z s k)[j]? := by
  obtain ⟨t, e⟩ := Qk_pre (T := T) (K := K) (z := z) (s := s) (k - m) m
  rw [show m + (k - m) = k by omega] at e
  rw [e, List.getElem?_append_left hj]
end
end BF
namespace K36
open PySem PySem.Spec L2 DW FW MK
section
variable {M : Mc} {B p q n k K a b s i j m z c : Nat} {δ : DEnv} {fa fb : FE} {PX : Xn → Prop} {f : List Pr} {pr : Pr} {S l w u v : List Nat} {Q : List Es} {e : Es}
/-- some word leads both states to one -/
def Mg (M : Mc) (pr : Pr) : Prop := ∃ w : List Nat, (∀ i ∈ w, i < M.K) ∧ M.run pr.1 w = M.run pr.2 w
theorem Mg.srt (h : Mg M (srt pr)) : Mg M pr := by
  obtain ⟨w, h1, h2⟩ := h
  refine ⟨w, h1, ?_⟩
  unfold K36.srt at h2
  rcases Nat.le_total pr.1 pr.2 with g | g
  · rw [Nat.min_eq_left g, Nat.max_eq_right g] at h2; exact h2
  · rw [Nat.min_eq_right g, Nat.max_eq_left g] at h2; exact h2.symm
theorem Mg.pre (hk : k < M.K) (h : Mg M (M.st pr.1 k, M.st pr.2 k)) : Mg M pr := by
  obtain ⟨w, h1, h2⟩ := h
  exact ⟨k :: w, fun i hi => (List.mem_cons.mp hi).elim (fun e => by rw [e]; exact hk) (h1 i), h2⟩
theorem mg_sound (hf : ∀ p ∈ f, Mg M p) (h : Mc.mg M f pr = true) : Mg M pr := by
  unfold Mc.mg at h
  obtain ⟨k, hk, h⟩ := List.any_eq_true.mp h
  rw [List.mem_range] at hk
  rw [Bool.or_eq_true, decide_eq_true_iff, decide_eq_true_iff] at h
  refine Mg.pre hk (Mg.srt ?_)
  rcases h with h | h
  · exact ⟨[], fun i hi => (by cases hi), h⟩
  · exact hf _ h
theorem fold_sound : ∀ (l f : List Pr), (∀ p ∈ f, Mg M p) → ∀ p ∈ l.foldl (Mc.stp M) f, Mg M p
  | [], f, h => h
  | x :: l, f, h => fold_sound l _ fun p hp => by
    unfold Mc.stp at hp
    split at hp
    · rename_i hc
      rcases List.mem_append.mp hp with hp | hp
      · exact h p hp
      · rw [List.mem_singleton.mp hp]; exact mg_sound h hc.1
    · exact h p hp
theorem FS_sound : ∀ m, ∀ p ∈ Mc.FS M m, Mg M p
  | 0 => fun p h => by cases h
  | m + 1 => fold_sound _ _ (FS_sound m)
theorem fx_all (h : M.Ok 5) : ∀ (w : List Nat) (p q : Nat), (∀ i ∈ w, i < M.K) → p < q → q < M.tab.length → M.run p w = M.run q w → (p, q) ∈ Mc.fx M
  | [], p, q, _, hp, _, e => absurd e (Nat.ne_of_lt hp)
  | k :: w, p, q, hw, hp, hq, e => by
    have hk := hw k (List.mem_cons_self ..)
    have hw' : ∀ i ∈ w, i < M.K := fun i hi => hw i (List.mem_cons_of_mem _ hi)
    obtain ⟨_, _, _, g1⟩ := h.cell (show p < M.tab.length by omega) hk
    obtain ⟨_, _, _, g2⟩ := h.cell hq hk
    have e : M.run (M.st p k) w = M.run (M.st q k) w := e
    refine fx_clo h (mem_prs.mpr ⟨hp, hq⟩) ?_
    unfold Mc.mg
    refine List.any_eq_true.mpr ⟨k, List.mem_range.mpr hk, ?_⟩
    rw [Bool.or_eq_true, decide_eq_true_iff, decide_eq_true_iff]
    show min (M.st p k) (M.st q k) = max (M.st p k) (M.st q k) ∨ (min (M.st p k) (M.st q k), max (M.st p k) (M.st q k)) ∈ Mc.fx M
    rcases Nat.lt_trichotomy (M.st p k) (M.st q k) with c | c | c
    · rw [Nat.min_eq_left (Nat.le_of_lt c), Nat.max_eq_right (Nat.le_of_lt c)]
      exact .inr (fx_all h w _ _ hw' c g2 e)
    · rw [c]; exact .inl (by rw [Nat.min_self, Nat.max_self])
    · rw [Nat.min_eq_right (Nat.le_of_lt c), Nat.max_eq_left (Nat.le_of_lt c)]
      exact .inr (fx_all h w _ _ hw' c g1 e.symm)
theorem mem_fx (h : M.Ok 5) (hp : pr ∈ prs M.tab.length) : pr ∈ Mc.fx M ↔ Mg M pr := by
  obtain ⟨h1, h2⟩ := mem_prs.mp hp
  exact ⟨FS_sound _ pr, fun ⟨w, g1, g2⟩ => fx_all h w pr.1 pr.2 g1 h1 h2 g2⟩
/-! sets -/
theorem mem_run (h : M.Ok B) : ∀ (n : Nat) (w : List Nat), w.length = n → (∀ i ∈ w, i < M.K) → ∀ q, q ∈ BF.runT (Mc.ts M) (Mc.al0 M) w ↔ ∃ s, s < M.tab.length ∧ q = M.run s w := by
  intro n
  induction n with
  | zero =>
    intro w hl _ q
    rw [List.length_eq_zero_iff.mp hl]
    show q ∈ List.range _ ↔ _
    rw [List.mem_range]
    exact ⟨fun hq => ⟨q, hq, rfl⟩, fun ⟨s, hs, e⟩ => by rw [e]; exact hs⟩
  | succ n ih =>
    intro w hl hw q
    have h0 : w ≠ [] := fun e => by rw [e] at hl; cases hl
    obtain ⟨x, d, rfl⟩ : ∃ x d, w = x ++ [d] := ⟨w.dropLast, w.getLast h0, (List.dropLast_concat_getLast h0).symm⟩
    rw [List.length_append] at hl
    have hl : x.length + 1 = n + 1 := hl
    have hx : ∀ i ∈ x, i < M.K := fun i hi => hw i (List.mem_append_left _ hi)
    have hd := hw d (List.mem_append_right _ (List.mem_singleton.mpr rfl))
    rw [BF.runT_snoc, ts_mem, List.mem_map]
    constructor
    · rintro ⟨_, r, hr, rfl⟩
      obtain ⟨s, hs, e⟩ := (ih x (by omega) hx r).mp hr
      exact ⟨s, hs, by rw [e, Mc.run_snoc]⟩
    · rintro ⟨s, hs, e⟩
      refine ⟨by rw [e]; exact Mc.run_lt h _ _ hs hw, M.run s x, (ih x (by omega) hx _).mpr ⟨s, hs, rfl⟩, by rw [e, Mc.run_snoc]⟩
theorem run_nd (w : List Nat) : (BF.runT (Mc.ts M) (Mc.al0 M) w).Pairwise (· < ·) := by
  by_cases h : w = []
  · subst h; exact List.pairwise_lt_range
  · obtain ⟨x, d, rfl⟩ : ∃ x d, w = x ++ [d] := ⟨w.dropLast, w.getLast h, (List.dropLast_concat_getLast h).symm⟩
    rw [BF.runT_snoc]
    exact ts_pw
/-- a word that leads all states to one merges all pairs -/
theorem one_merges (h : M.Ok 5) (hw : ∀ i ∈ w, i < M.K) (h1 : (BF.runT (Mc.ts M) (Mc.al0 M) w).length = 1) : ∀ p q, p < M.tab.length → q < M.tab.length → M.run p w = M.run q w := by
  intro p q hp hq
  have a1 := (mem_run h w.length w rfl hw (M.run p w)).mpr ⟨p, hp, rfl⟩
  have a2 := (mem_run h w.length w rfl hw (M.run q w)).mpr ⟨q, hq, rfl⟩
  obtain ⟨x, hx⟩ := List.length_eq_one_iff.mp h1
  rw [hx] at a1 a2
  rw [List.mem_singleton.mp a1, List.mem_singleton.mp a2]
theorem shrink (h : M.Ok 5) (hall : ∀ pr ∈ prs M.tab.length, pr ∈ Mc.fx M) : ∀ (m : Nat) (w : List Nat), (∀ i ∈ w, i < M.K) → (BF.runT (Mc.ts M) (Mc.al0 M) w).length ≤ m → ∃ u : List Nat, (∀ i ∈ u, i < M.K) ∧ (BF.runT (Mc.ts M) (Mc.al0 M) u).length = 1
  | 0, w, hw, hl => by
    have := (mem_run h w.length w rfl hw (M.run 0 w)).mpr ⟨0, h.n0, rfl⟩
    rw [List.length_eq_zero_iff.mp (Nat.le_zero.mp hl)] at this
    cases this
  | m + 1, w, hw, hl => by
    cases hS : BF.runT (Mc.ts M) (Mc.al0 M) w with
    | nil =>
      have := (mem_run h w.length w rfl hw (M.run 0 w)).mpr ⟨0, h.n0, rfl⟩
      rw [hS] at this; cases this
    | cons a r =>
      cases r with
      | nil => exact ⟨w, hw, by rw [hS]; rfl⟩
      | cons b r =>
        have hp := run_nd (M := M) w
        rw [hS] at hp
        have hab : a < b := (List.pairwise_cons.mp hp).1 b (List.mem_cons_self ..)
        have hb : b < M.tab.length := (run_in (M := M) w).1 b (by rw [hS]; simp)
        obtain ⟨u, hu, e⟩ := (mem_fx h (mem_prs.mpr ⟨hab, hb⟩)).mp (hall (a, b) (mem_prs.mpr ⟨hab, hb⟩))
        have hwu : ∀ i ∈ w ++ u, i < M.K := fun i hi => (List.mem_append.mp hi).elim (hw i) (hu i)
        refine shrink h hall m (w ++ u) hwu ?_
        have hsub := BF.nodup_sub ((a :: r).map fun s => M.run s u) (BF.runT (Mc.ts M) (Mc.al0 M) (w ++ u)) ((run_nd _).imp fun h => Nat.ne_of_lt h) fun x hx => by
          obtain ⟨s, hs, rfl⟩ := (mem_run h _ (w ++ u) rfl hwu x).mp hx
          have hin := (mem_run h w.length w rfl hw (M.run s w)).mpr ⟨s, hs, rfl⟩
          rw [hS] at hin
          rw [Mc.run_app]
          rcases List.mem_cons.mp hin with z | z
          · exact List.mem_map.mpr ⟨a, List.mem_cons_self .., by rw [z]⟩
          · rcases List.mem_cons.mp z with z | z
            · exact List.mem_map.mpr ⟨a, List.mem_cons_self .., by rw [z]; exact e⟩
            · exact List.mem_map.mpr ⟨_, List.mem_cons_of_mem _ z, rfl⟩
        rw [hS] at hl
        rw [List.length_map] at hsub
        simp at hsub hl
        omega
def Mc.apt (M : Mc) : List Pr := (prs M.tab.length).filter fun p => !decide (p ∈ Mc.fx M)
def Mc.sgl (M : Mc) (k : Nat) : List Es := (Qs M k).filter fun e => decide (e.1.length = 1)
theorem apt_nil : Mc.apt M = [] ↔ ∀ pr ∈ prs M.tab.length, pr ∈ Mc.fx M := by
  unfold Mc.apt
  rw [List.filter_eq_nil_iff]
  exact ⟨fun h p hp => by have := h p hp; simpa using this, fun h p hp => by simpa using h p hp⟩
theorem sgl_apt (h : M.Ok 5) (ke : SEnd M k) : Mc.sgl M k ≠ [] ↔ Mc.apt M = [] := by
  have v := ke.iv
  constructor
  · intro hs
    rw [apt_nil]
    intro pr hp
    obtain ⟨h1, h2⟩ := mem_prs.mp hp
    cases hc : Mc.sgl M k with
    | nil => exact absurd hc hs
    | cons e r =>
      have he : e ∈ Mc.sgl M k := by rw [hc]; exact List.mem_cons_self ..
      unfold Mc.sgl at he
      obtain ⟨g1, g2⟩ := List.mem_filter.mp he
      obtain ⟨r1, r2⟩ := v.run e g1
      have g3 := of_decide_eq_true g2
      rw [r1] at g3
      exact (mem_fx h hp).mpr ⟨e.2, r2, one_merges h r2 g3 _ _ (by omega) h2⟩
  · intro ha
    obtain ⟨u, h1, h2⟩ := shrink h (apt_nil.mp ha) _ [] (fun i hi => by cases hi) (Nat.le_refl _)
    obtain ⟨f, f1, f2, _⟩ := v.all ke.len u h1
    intro hs
    have : f ∈ Mc.sgl M k := List.mem_filter.mpr ⟨f1, decide_eq_true (by rw [f2]; exact h2)⟩
    rw [hs] at this
    cases this
theorem sgl_pw (ke : SEnd M k) : ((Mc.sgl M k).map fun e : Es => e.2).Pairwise fun u v => num M.K u < num M.K v := by
  have v := ke.iv
  have : (Qs M k).Pairwise fun e f : Es => num M.K e.2 < num M.K f.2 := List.pairwise_iff_getElem.mpr fun i j hi hj hij => v.inc i j _ _ hij (List.getElem?_eq_getElem hi) (List.getElem?_eq_getElem hj)
  exact List.Pairwise.map _ (fun e f h => h) (List.Pairwise.sublist List.filter_sublist this)
/-! reset_word -/
def Mc.told (M : Mc) (k : Nat) : D := match Mc.apt M with
  | p :: _ => .tuple [.str "never", encI p.1, encI p.2]
  | [] => match Mc.sgl M k with
    | e :: _ => .tuple [.str "word", .str (tx e.2)]
    | [] => .none
theorem items_q {f : FE} (hf : f δ = .ok (.oT (mdq M))) : iItemsT (fFrz f) δ = .ok ((prs M.tab.length).map fun p => .tuple [encQ p, .bool (decide (p ∈ Mc.fx M))]) := by
  unfold iItemsT fFrz
  rw [hf]
  show Tr.ok (pairsD ((mdq M).map fun kv => (PyData.tuple (kv.1.map keyD), kv.2))) = _
  unfold pairsD mdq dct
  rw [List.map_map, List.map_map]
  rfl
theorem reset_ok (h : M.Ok 5) (ke : SEnd M k) : F_reset_word [.im M.enc] = .ok (.im (Mc.told M k)) := by
  have hpl := prs_len h.n1
  have n1 := h.n1
  have hK : 0 < M.K ∧ M.K ≤ 3 := by have := h.k; omega
  have e1 : sSetF 1 (fCall gSortD (aCons (fLc (iItemsT (fFrz (fCallC 1 F_merging_pairs (aCons (fV 0) aNil)))) (gTup 2 (gsCons (gN 9) (gsCons (gN 10) gsNil))) (tNotF (tTruF (fV 10))) (fV 9) [9, 10]) aNil)) (startD n_reset_word [.im M.enc]) =
      .ok (.nx [some (.im M.enc), some (.ol ((Mc.apt M).map encQ)), none, none, none, none, none, none, none, none, none, none]) := by
    refine set_ok (r := .ol ((Mc.apt M).map encQ)) (call_ok (cons_ok (flcIf_ok (e := fun p => .tuple [encQ p, .bool (decide (p ∈ Mc.fx M))]) (h := encQ) (c := fun p => !decide (p ∈ Mc.fx M)) (ts := prs M.tab.length) (items_q (callC_ok (cons_ok rfl rfl) rfl (merging_ok h))) (by omega) fun p hp => ⟨_, rfl, tNot_ok rfl, fun _ => ⟨_, rfl, rfl⟩⟩) rfl) (sortQ n1)) rfl
  unfold Mc.told
  cases ha : Mc.apt M with
  | cons p r =>
    rw [ha] at e1
    refine fn_ok ((sq_nx e1).trans (sq_rt ((if_t (tr_ol (xs := encQ p :: r.map encQ) rfl)).trans (ret_ok ?_)))) rfl
    unfold fTupStar
    show ((fOp gIx (fV 1) (fC (.int 0)) _).bind _) = _
    rw [op_ok (z := .im (encQ p)) rfl rfl (ix_bl (i := 0) (xs := encQ p :: r.map encQ) rfl)]
    rfl
  | nil =>
    rw [ha] at e1
    have hs := (sgl_apt h ke).mpr ha
    cases hc : Mc.sgl M k with
    | nil => exact absurd hc hs
    | cons e r =>
      obtain ⟨l1, l2, g1, g2, g3, _⟩ := List.filter_eq_cons_iff.mp hc
      have hi : l1.length < k := by
        have h2 : (Qs M k).length = k := ke.len
        rw [← h2, g1]; simp
      have he : (Qs M k)[l1.length]? = some e := by rw [g1]; simp
      have eL := rL_ok (x1 := some (.ol [])) h ke hi he (of_decide_eq_true g3) (fun j e' hj he' => by
        rw [g1, List.getElem?_append_left hj] at he'
        have := g2 e' (List.mem_of_getElem? he')
        simpa using this) fun j m hj hm => BF.Qk_at hm (by
          by_cases z : m = k
          · subst z; rw [ke.len]; exact hj
          · have := ke.lt m (by omega); omega)
      refine fn_ok ((sq_nx e1).trans ((sq_nx ((if_f (tr_ol (xs := []) rfl)).trans rfl)).trans ((sq_nx (set_ok (tupR1_ok (n := M.tab.length) (many_ok rfl) (by omega)) rfl)).trans ((sq_nx (set_ok (dispT_ok rfl) rfl)).trans ((sq_nx (δ' := rE M (some (.ol [])) [(Mc.al0 M, [])] [(Mc.al0 M, [])] none none none none) ?_).trans (sq_rt eL)))))) rfl
      exact set_ok (r := .ol [encS (Mc.al0 M)]) (lst_ok (cons_ok rfl rfl) rfl (show 1 ≤ 16777216 by decide)) rfl
end
end K36
set_option Elab.async false
set_option linter.all false
set_option maxRecDepth 100000
set_option maxHeartbeats 1000000
/-! takes_never, _law_never -/
namespace K36
open PySem PySem.Spec L2 DW FW MK
theorem eqQ (a b : Pr) : PyData.eqv (encQ a) (encQ b) = decide (a = b) := by
  unfold encQ encI
  rw [PyData.eqv, PyData.eqvAll, PyData.eqvAll, PyData.eqvAll, PyData.eqv, PyData.eqv]
  by_cases h : a = b
  · subst h; simp
  · rw [decide_eq_false h]
    cases e1 : ((a.1 : Int) == (b.1 : Int)) with
    | false => rfl
    | true =>
      cases e2 : ((a.2 : Int) == (b.2 : Int)) with
      | false => rfl
      | true =>
        have h1 := eq_of_beq e1
        have h2 := eq_of_beq e2
        exact absurd (Prod.ext (by omega) (by omega)) h
theorem layQ (ps : List Pr) : PyData.canLayAll0 (ps.map encQ) = true := by
  induction ps with
  | nil => rfl
  | cons p r ih =>
    rw [List.map_cons, PyData.canLayAll0, ih]
    unfold encQ encI
    simp [PyData.canLay0, PyData.canLayAll0]
theorem depQ (ps : List Pr) : PyData.depthAll (ps.map encQ) ≤ 1 := by
  induction ps with
  | nil => simp [PyData.depthAll]
  | cons p r ih =>
    rw [List.map_cons, PyData.depthAll]
    have : PyData.depth (encQ p) = 1 := by unfold encQ encI; simp [PyData.depth, PyData.depthAll]
    rw [this]
    omega
theorem shpQs (ps : List Pr) : shp (.list (ps.map encQ)) = true := by
  unfold shp SeqAt.shaped
  rw [Bool.and_eq_true]
  refine ⟨by rw [PyData.canLay0]; exact layQ ps, decide_eq_true ?_⟩
  have := depQ ps
  rw [PyData.depth]
  omega
theorem shpQ (p : Pr) : shp (encQ p) = true := by
  unfold shp SeqAt.shaped encQ encI
  rw [Bool.and_eq_true]
  exact ⟨by simp [PyData.canLay0, PyData.canLayAll0], decide_eq_true (by simp [PyData.depth, PyData.depthAll])⟩
section
variable {M : Mc} {B p q n k K a b s i j m z c : Nat} {δ : DEnv} {fa fb : FE} {PX : Xn → Prop} {f : List Pr} {pr : Pr} {own : List Pr}
theorem inD_Q (ps : List Pr) (q : Pr) : inD (encQ q) (ps.map encQ) = decide (q ∈ ps) := by
  unfold inD
  induction ps with
  | nil => rfl
  | cons p r ih =>
    rw [List.map_cons, List.any_cons, ih, eqQ]
    by_cases h : p = q
    · subst h; simp
    · have h' : ¬ q = p := fun z => h z.symm
      simp [h, h']
theorem inL_Q {neg : Bool} {fa fb : FE} {r : R} {ps : List Pr} {q : Pr} (ha : fa δ = .ok (.im (encQ q))) (hb : fb δ = .ok r) (hr : r.lst = some (ps.map encQ)) : fOp (gInL neg) fa fb δ = .ok (.im (.bool (if neg then !decide (q ∈ ps) else decide (q ∈ ps)))) := by
  refine op_ok ha hb ?_
  unfold gInL
  show (match (some (encQ q) : Option D), r.lst with | some d, some ds => gd (shp d && shp (.list ds)) (Tr.ok (R.im (PyData.bool (if neg = true then !inD d ds else inD d ds)))) | _, _ => Tr.no) = _
  rw [hr]
  show gd (shp (encQ q) && shp (.list (ps.map encQ))) (Tr.ok (R.im (PyData.bool (if neg = true then !inD (encQ q) (ps.map encQ) else inD (encQ q) (ps.map encQ))))) = _
  rw [shpQ, shpQs, inD_Q]
  rfl
def encPs (own : List Pr) : D := .tuple (own.map encQ)
/-- in range, not alike -/
def rgt (M : Mc) (p : Pr) : Bool := decide (p.1 < M.tab.length) && (decide (p.2 < M.tab.length) && !decide (p.1 = p.2))
def nv (M : Mc) (own : List Pr) : Bool := (!own.isEmpty && own.all (rgt M)) && own.all fun p => (List.range M.K).all fun k => decide (Mc.pa M p k ∈ own.map srt)
theorem chain_nat {fc fx fm : FE} {x m : Nat} (h0 : fc δ = .ok (.im (.int 0))) (hx : fx δ = .ok (.im (encI x))) (hm : fm δ = .ok (.im (encI m))) : fChain gLe gLt fc fx fm δ = .ok (.im (.bool (decide (x < m)))) := by
  unfold fChain
  rw [h0, bind_ok, hx, bind_ok]
  have e1 : gLe (.im (.int 0)) (.im (encI x)) = .ok (.im (.bool true)) := by
    show Tr.ok (R.im (PyData.bool (decide ((0 : Int) ≤ ((x : Nat) : Int))))) = _
    rw [decide_eq_true (by omega)]
  rw [e1, bind_ok]
  show (fm δ).bind (fun z => gLt (.im (encI x)) z) = _
  rw [hm, bind_ok]
  show Tr.ok (R.im (PyData.bool (decide (((x : Nat) : Int) < ((m : Nat) : Int))))) = _
  rw [decide_eq_decide.mpr Int.ofNat_lt]
theorem and_ok {fa fb : FE} {a b : Bool} (ha : fa δ = .ok (.im (.bool a))) (hb : fb δ = .ok (.im (.bool b))) : fAnd fa fb δ = .ok (.im (.bool (a && b))) := by
  unfold fAnd
  rw [ha, bind_ok]
  cases a with
  | false => rfl
  | true => exact hb
theorem ne_nat (ha : fa δ = .ok (.im (encI a))) (hb : fb δ = .ok (.im (encI b))) : fOp gNe fa fb δ = .ok (.im (.bool (!decide (a = b)))) := by
  refine op_ok ha hb ?_
  show gd (shp (.int (a : Nat)) && shp (.int (b : Nat))) (Tr.ok (R.im (PyData.bool (!PyData.eqv (.int (a : Nat)) (.int (b : Nat)))))) = _
  rw [shp_nat, shp_nat, eqv_nat]; rfl
theorem rgt_ok {fc fp fq fm : FE} {pr : Pr} (h0 : ∀ δ, fc δ = .ok (.im (.int 0))) (hp : fp δ = .ok (.im (encI pr.1))) (hq : fq δ = .ok (.im (encI pr.2))) (hm : fm δ = .ok (.im (encI M.tab.length))) : fAnd (fChain gLe gLt fc fp fm) (fAnd (fChain gLe gLt fc fq fm) (fOp gNe fp fq)) δ = .ok (.im (.bool (rgt M pr))) :=
  and_ok (chain_nat (h0 δ) hp hm) (and_ok (chain_nat (h0 δ) hq hm) (ne_nat hp hq))
/-- tuple(sorted(pair)) -/
theorem srt_ok {f : FE} (hf : f δ = .ok (.im (encQ pr))) : fCall gTupOf (aCons (fCall gSortTD (aCons f aNil)) aNil) δ = .ok (.im (encQ (srt pr))) := call_ok (cons_ok (call_ok (cons_ok hf rfl) sort2T) rfl) rfl
/-- the dict of sorted pairs -/
theorem dcQ_ok {g : FG} {fk : FE} {δ0 : DEnv} : ∀ (ts : List Pr) (done : List Pr), (done.length + ts.length) ≤ 10000 → (∀ t ∈ ts, ∃ δ1, g (encQ t) δ0 = .ok δ1 ∧ fk δ1 = .ok (.im (encQ (srt t)))) →
    ∃ done' : List Pr, dcF g tYes fk (fC (.bool true)) δ0 (ts.map encQ) (.oT (dq done)) = .ok (.oT (dq done')) ∧ (∀ x, x ∈ done' ↔ x ∈ done ∨ x ∈ ts.map srt)
  | [], done, _, _ => ⟨done, rfl, fun x => by simp⟩
  | t :: ts, done, hl, hs => by
    obtain ⟨δ1, e1, e2⟩ := hs t (List.mem_cons_self ..)
    rw [List.length_cons] at hl
    have e3 : ∀ s1, putF (.oT (dq done)) (encQ (srt t)) (.bool true) = .ok s1 → dcF g tYes fk (fC (.bool true)) δ0 ((t :: ts).map encQ) (.oT (dq done)) = dcF g tYes fk (fC (.bool true)) δ0 (ts.map encQ) s1 := fun s1 h => by
      rw [List.map_cons, dcF, e1]
      show (FW.calm (fk δ1)).bind _ = _
      rw [e2]
      show (putF (.oT (dq done)) (encQ (srt t)) (.bool true)).bind _ = _
      rw [h]
      rfl
    by_cases hin : srt t ∈ done
    · rw [e3 _ (putq_same (by omega) hin)]
      obtain ⟨done', h1, h3⟩ := dcQ_ok ts done (by omega) fun t ht => hs t (List.mem_cons_of_mem _ ht)
      refine ⟨done', h1, fun x => ?_⟩
      rw [h3, List.map_cons, List.mem_cons]
      constructor
      · rintro (h | h)
        · exact .inl h
        · exact .inr (.inr h)
      · rintro (h | h | h)
        · exact .inl h
        · exact .inl (h ▸ hin)
        · exact .inr h
    · rw [e3 _ (putq_ok (by omega) hin)]
      obtain ⟨done', h1, h3⟩ := dcQ_ok ts (done ++ [srt t]) (by rw [List.length_append]; simp; omega) fun t ht => hs t (List.mem_cons_of_mem _ ht)
      refine ⟨done', h1, fun x => ?_⟩
      rw [h3, List.mem_append, List.mem_singleton, List.map_cons, List.mem_cons]
      constructor
      · rintro ((h | h) | h)
        · exact .inl h
        · exact .inr (.inl h)
        · exact .inr (.inr h)
      · rintro (h | h | h)
        · exact .inl (.inl h)
        · exact .inl (.inr h)
        · exact .inr h
theorem tru_T {f : FE} {own : List Pr} (hf : f δ = .ok (.im (encPs own))) : tTruF f δ = .ok (!own.isEmpty) := by
  unfold tTruF
  rw [hf]
  cases own <;> rfl
theorem fNot_ok {f : FE} {b : Bool} (h : f δ = .ok (.im (.bool b))) : fNot f δ = .ok (.im (.bool (!b))) := by
  unfold fNot
  rw [h]
  rfl
theorem takes_ok (h : M.Ok 5) (hl : own.length ≤ 100) : F_takes_never [.im M.enc, .im (encPs own)] = .ok (.im (.bool (nv M own))) := by
  have n1 := h.n1
  have hk := h.k
  have e2 : sSetF 2 (fCall gLen (aCons (fOp gIx (fV 0) (fC (.int 1))) aNil)) (startD n_takes_never [.im M.enc, .im (encPs own)]) = .ok (.nx [some (.im M.enc), some (.im (encPs own)), some (.im (.int (M.tab.length : Nat))), none, none, none, none, none]) := set_ok (many_ok rfl) rfl
  have ea : tB (fCall gAll (aCons (fLc (iT (fV 1)) (gTup 2 (gsCons (gN 6) (gsCons (gN 7) gsNil))) tYes (fAnd (fChain gLe gLt (fC (.int 0)) (fV 6) (fV 2)) (fAnd (fChain gLe gLt (fC (.int 0)) (fV 7) (fV 2)) (fOp gNe (fV 6) (fV 7)))) [6, 7]) aNil)) [some (.im M.enc), some (.im (encPs own)), some (.im (.int (M.tab.length : Nat))), none, none, none, none, none] = .ok (own.all (rgt M)) :=
    tB_ok (call_ok (cons_ok (flc_ok (e := encQ) (h := fun p => .bool (rgt M p)) (ts := own) rfl (by omega) fun p _ => ⟨_, .im (.bool (rgt M p)), rfl, rgt_ok (pr := p) (fun _ => rfl) rfl rfl rfl, rfl⟩) rfl) all_map)
  cases hemp : own.isEmpty with
  | true =>
    have : nv M own = false := by unfold nv; rw [hemp]; rfl
    rw [this]
    exact fn_ok ((sq_nx e2).trans (sq_rt ((if_t (tOr_t (tNot_ok ((tru_T rfl).trans (by rw [hemp]))))).trans rfl))) rfl
  | false =>
    have t1 : tNotF (tTruF (fV 1)) [some (.im M.enc), some (.im (encPs own)), some (.im (.int (M.tab.length : Nat))), none, none, none, none, none] = .ok false := tNot_ok ((tru_T rfl).trans (by rw [hemp]))
    cases hr : own.all (rgt M) with
    | false =>
      have : nv M own = false := by unfold nv; rw [hr, Bool.and_false]; rfl
      rw [this]
      rw [hr] at ea
      exact fn_ok ((sq_nx e2).trans (sq_rt ((if_t (tOr_f t1 (tNot_ok ea))).trans rfl))) rfl
    | true =>
      have hnv : nv M own = own.all fun p => (List.range M.K).all fun k => decide (Mc.pa M p k ∈ own.map srt) := by unfold nv; rw [hemp, hr]; rfl
      rw [hr] at ea
      obtain ⟨ks, e3, hks⟩ := dcQ_ok (g := gN 4) (fk := fCall gTupOf (aCons (fCall gSortTD (aCons (fV 4) aNil)) aNil)) (δ0 := [some (.im M.enc), some (.im (encPs own)), some (.im (.int (M.tab.length : Nat))), none, none, none, none, none]) own [] (by simp; omega) fun t _ => ⟨_, rfl, srt_ok rfl⟩
      have hks' : ∀ x, x ∈ ks ↔ x ∈ own.map srt := fun x => (hks x).trans (by simp)
      have e4 : sSetF 3 (fDc (.oT []) (iT (fV 1)) (gN 4) tYes (fCall gTupOf (aCons (fCall gSortTD (aCons (fV 4) aNil)) aNil)) (fC (.bool true)) [4]) [some (.im M.enc), some (.im (encPs own)), some (.im (.int (M.tab.length : Nat))), none, none, none, none, none] = .ok (.nx [some (.im M.enc), some (.im (encPs own)), some (.im (.int (M.tab.length : Nat))), some (.oT (dq ks)), none, none, none, none]) := by
        refine set_ok (r := .oT (dq ks)) ?_ rfl
        unfold fDc
        show (dcF (gN 4) tYes (fCall gTupOf (aCons (fCall gSortTD (aCons (fV 4) aNil)) aNil)) (fC (.bool true)) _ (own.map encQ) (.oT (dq []))).bind _ = _
        rw [show wipeD [some (.im M.enc), some (.im (encPs own)), some (.im (.int (M.tab.length : Nat))), none, none, none, none, none] [4] = [some (.im M.enc), some (.im (encPs own)), some (.im (.int (M.tab.length : Nat))), none, none, none, none, none] from rfl, e3]
        exact rfl
      refine fn_ok ((sq_nx e2).trans ((sq_nx ((if_f (tOr_f t1 (tNot_ok ea))).trans rfl)).trans ((sq_nx e4).trans (ret_ok (r := .im (.bool (nv M own))) ?_)))) rfl
      have hrg : ∀ p ∈ own, p.1 < M.tab.length ∧ p.2 < M.tab.length := fun p hp => by
        have := List.all_eq_true.mp hr p hp
        unfold rgt at this
        simp only [Bool.and_eq_true, decide_eq_true_eq] at this
        exact ⟨this.1, this.2.1⟩
      have hlen : (own.flatMap fun p => (List.range M.K).map fun k => (p, k)).length ≤ 1000 := by
        have : ∀ l : List Pr, (l.flatMap fun p => (List.range M.K).map fun k => (p, k)).length = l.length * M.K := fun l => by
          induction l with
          | nil => simp
          | cons a r ih => rw [List.flatMap_cons, List.length_append, ih, List.length_map, List.length_range, List.length_cons, Nat.succ_mul]; omega
        rw [this]
        have : own.length * M.K ≤ 100 * 3 := Nat.mul_le_mul hl (by omega)
        omega
      have e5 := flc2_ok (e1 := encQ) (us := fun p => (List.range M.K).map fun k => (p, k)) (e2 := fun x : Pr × Nat => encI x.2) (h := fun x : Pr × Nat => .bool (decide (Mc.pa M x.1 x.2 ∈ ks))) (g1 := gN 4) (g2 := gN 5) (i1 := iT (fV 1)) (i2 := iR1 (aCons (fCall gLen (aCons (fOp gIx (fV 0) (fC (.int 0))) aNil)) aNil)) (f := fOp (gDinz false) (fCallC 3 F_pair_after (aCons (fV 0) (aCons (fV 4) (aCons (fV 5) aNil)))) (fV 3)) (vs := [4, 5]) (vs2 := [5]) (δ := [some (.im M.enc), some (.im (encPs own)), some (.im (.int (M.tab.length : Nat))), some (.oT (dq ks)), none, none, none, none]) (ts := own) rfl (by omega) fun p hp => ⟨_, rfl, by rw [List.map_map]; exact R1_ok (m := M.K) (cons_ok (lenK_ok h rfl) rfl) (by omega), fun x hx => by
        obtain ⟨k, hk2, rfl⟩ := List.mem_map.mp hx
        exact ⟨_, .im (.bool (decide (Mc.pa M p k ∈ ks))), rfl, dinq_ok (neg := false) (callC_ok (cons_ok rfl (cons_ok rfl (cons_ok rfl rfl))) rfl (pair_after_ok (p := p.1) (q := p.2) h (hrg p hp).1 (hrg p hp).2 (List.mem_range.mp hk2))) rfl, rfl⟩⟩
      refine call_ok (cons_ok e5 rfl) ?_
      rw [all_map, hnv]
      congr 3
      rw [List.all_flatMap]
      refine congrArg _ (funext fun p => ?_)
      rw [List.all_map]
      refine congrArg _ (funext fun k => ?_)
      exact decide_eq_decide.mpr (hks' _)
def lnB : FS := (sIfF (tB (fCall gAny (aCons (fLc (iR1 (aCons (fCall gLen (aCons (fOp gIx (fV 0) (fC (.int 0))) aNil)) aNil)) (gN 7) tYes (fOp (gInL true) (fCall gTupOf (aCons (fCall gSortD (aCons (fLst (aFCons (fOp gIx (fOp gIx (fOp gIx (fV 0) (fC (.int 1))) (fV 4)) (fV 7)) (aFCons (fOp gIx (fOp gIx (fOp gIx (fV 0) (fC (.int 1))) (fV 5)) (fV 7)) aNil))) aNil)) aNil)) (fV 3)) [7]) aNil))) (sRetF (fC (.bool false))) sNx)
/-- tuple(sorted([row[p][k], row[q][k]])) -/
theorem pa_ok {fm fp fq fk : FE} {p q k : Nat} (h : M.Ok 5) (hp : p < M.tab.length) (hq : q < M.tab.length) (hk : k < M.K) (em : fm δ = .ok (.im M.enc)) (ep : fp δ = .ok (.im (encI p))) (eq : fq δ = .ok (.im (encI q))) (ek : fk δ = .ok (.im (encI k))) :
    fCall gTupOf (aCons (fCall gSortD (aCons (fLst (aFCons (fOp gIx (fOp gIx (fOp gIx fm (fC (.int 1))) fp) fk) (aFCons (fOp gIx (fOp gIx (fOp gIx fm (fC (.int 1))) fq) fk) aNil))) aNil)) aNil) δ = .ok (.im (encQ (Mc.pa M (p, q) k))) :=
  call_ok (cons_ok (call_ok (cons_ok (lst_ok (ds := [encI (M.st p k), encI (M.st q k)]) (fcons_ok (cell_ok h hp hk em ep ek) rfl (fcons_ok (cell_ok h hq hk em eq ek) rfl rfl)) rfl (show 2 ≤ 16777216 by decide)) rfl) sort2D) rfl) rfl
theorem not_all {α : Type} {l : List α} {c : α → Bool} : (l.any fun x => !c x) = !l.all c := by
  induction l with
  | nil => rfl
  | cons a r ih => rw [List.any_cons, List.all_cons, ih]; cases c a <;> rfl
theorem law_never_ok (h : M.Ok 5) (hl : own.length ≤ 100) : F__law_never [.im M.enc, .im (encPs own)] = .ok (.im (.bool (nv M own))) := by
  have n1 := h.n1
  have hk := h.k
  have e2 : sSetF 2 (fCall gLen (aCons (fOp gIx (fV 0) (fC (.int 1))) aNil)) (startD n__law_never [.im M.enc, .im (encPs own)]) = .ok (.nx [some (.im M.enc), some (.im (encPs own)), some (.im (.int (M.tab.length : Nat))), none, none, none, none, none]) := set_ok (many_ok rfl) rfl
  have ea : tB (fCall gAny (aCons (fLc (iT (fV 1)) (gTup 2 (gsCons (gN 4) (gsCons (gN 5) gsNil))) tYes (fNot (fAnd (fChain gLe gLt (fC (.int 0)) (fV 4) (fV 2)) (fAnd (fChain gLe gLt (fC (.int 0)) (fV 5) (fV 2)) (fOp gNe (fV 4) (fV 5))))) [4, 5]) aNil)) [some (.im M.enc), some (.im (encPs own)), some (.im (.int (M.tab.length : Nat))), none, none, none, none, none] = .ok (own.any fun p => !rgt M p) :=
    tB_ok (call_ok (cons_ok (flc_ok (e := encQ) (h := fun p => .bool (!rgt M p)) (ts := own) rfl (by omega) fun p _ => ⟨_, .im (.bool (!rgt M p)), rfl, fNot_ok (rgt_ok (M := M) (pr := p) (fun _ => rfl) rfl rfl rfl), rfl⟩) rfl) any_map)
  have t1 : tB (fOp gEq (fCall gLen (aCons (fV 1) aNil)) (fC (.int 0))) [some (.im M.enc), some (.im (encPs own)), some (.im (.int (M.tab.length : Nat))), none, none, none, none, none] = .ok own.isEmpty := by
    have hlen := lenT_ok (f := fV 1) (δ := [some (.im M.enc), some (.im (encPs own)), some (.im (.int (M.tab.length : Nat))), none, none, none, none, none]) (xs := own.map encQ) rfl
    rw [List.length_map] at hlen
    have := tB_ok (eq_nat (b := 0) (fb := fC (.int 0)) hlen rfl)
    rw [this]
    cases own <;> rfl
  cases hemp : own.isEmpty with
  | true =>
    have : nv M own = false := by unfold nv; rw [hemp]; rfl
    rw [this]
    rw [hemp] at t1
    exact fn_ok ((sq_nx e2).trans (sq_rt ((if_t (tOr_t t1)).trans rfl))) rfl
  | false =>
    rw [hemp] at t1
    rw [not_all] at ea
    cases hr : own.all (rgt M) with
    | false =>
      have : nv M own = false := by unfold nv; rw [hr, Bool.and_false]; rfl
      rw [this]
      rw [hr] at ea
      exact fn_ok ((sq_nx e2).trans (sq_rt ((if_t (tOr_f t1 ea)).trans rfl))) rfl
    | true =>
      have hnv : nv M own = own.all fun p => (List.range M.K).all fun k => decide (Mc.pa M p k ∈ own.map srt) := by unfold nv; rw [hemp, hr]; rfl
      rw [hr] at ea
      have hrg : ∀ p ∈ own, p.1 < M.tab.length ∧ p.2 < M.tab.length := fun p hp => by
        have := List.all_eq_true.mp hr p hp
        unfold rgt at this
        simp only [Bool.and_eq_true, decide_eq_true_eq] at this
        exact ⟨this.1, this.2.1⟩
      have e3 : sSetF 3 (fLc (iT (fV 1)) (gN 6) tYes (fCall gTupOf (aCons (fCall gSortTD (aCons (fV 6) aNil)) aNil)) [6]) [some (.im M.enc), some (.im (encPs own)), some (.im (.int (M.tab.length : Nat))), none, none, none, none, none] = .ok (.nx [some (.im M.enc), some (.im (encPs own)), some (.im (.int (M.tab.length : Nat))), some (.ol ((own.map srt).map encQ)), none, none, none, none]) := by
        refine set_ok (r := .ol ((own.map srt).map encQ)) ?_ rfl
        rw [List.map_map]
        exact flc_ok (e := encQ) (h := encQ ∘ srt) (ts := own) rfl (by omega) fun p _ => ⟨_, _, rfl, srt_ok rfl, rfl⟩
      have main := forF_find (g := gTup 2 (gsCons (gN 4) (gsCons (gN 5) gsNil))) (e := encQ) (p := fun p => !(List.range M.K).all fun k => decide (Mc.pa M p k ∈ own.map srt)) (val := fun _ => .im (.bool false)) (b := lnB)
        (fun δ => ∃ x4 x5, δ = [some (.im M.enc), some (.im (encPs own)), some (.im (.int (M.tab.length : Nat))), some (.ol ((own.map srt).map encQ)), x4, x5, none, none]) own [some (.im M.enc), some (.im (encPs own)), some (.im (.int (M.tab.length : Nat))), some (.ol ((own.map srt).map encQ)), none, none, none, none] ⟨none, none, rfl⟩ (by
          rintro p hp δ ⟨x4, x5, rfl⟩
          have et : tB (fCall gAny (aCons (fLc (iR1 (aCons (fCall gLen (aCons (fOp gIx (fV 0) (fC (.int 0))) aNil)) aNil)) (gN 7) tYes (fOp (gInL true) (fCall gTupOf (aCons (fCall gSortD (aCons (fLst (aFCons (fOp gIx (fOp gIx (fOp gIx (fV 0) (fC (.int 1))) (fV 4)) (fV 7)) (aFCons (fOp gIx (fOp gIx (fOp gIx (fV 0) (fC (.int 1))) (fV 5)) (fV 7)) aNil))) aNil)) aNil)) (fV 3)) [7]) aNil)) [some (.im M.enc), some (.im (encPs own)), some (.im (.int (M.tab.length : Nat))), some (.ol ((own.map srt).map encQ)), some (.im (encI p.1)), some (.im (encI p.2)), none, none] = .ok (!(List.range M.K).all fun k => decide (Mc.pa M p k ∈ own.map srt)) := by
            rw [← not_all]
            exact tB_ok (call_ok (cons_ok (flc_ok (e := encI) (h := fun k => .bool (!decide (Mc.pa M p k ∈ own.map srt))) (ts := List.range M.K) (R1_ok (m := M.K) (cons_ok (lenK_ok h rfl) rfl) (by omega)) (by rw [List.length_range]; omega) fun k hk2 => ⟨_, .im (.bool (!decide (Mc.pa M p k ∈ own.map srt))), rfl, inL_Q (neg := true) (ps := own.map srt) (pa_ok h (hrg p hp).1 (hrg p hp).2 (List.mem_range.mp hk2) rfl rfl rfl rfl) rfl rfl, rfl⟩) rfl) any_map)
          exact ⟨_, rfl, fun hc => (if_t (et.trans (by rw [hc]))).trans rfl, fun hc => ⟨_, (if_f (et.trans (by rw [hc]))).trans rfl, _, _, rfl⟩⟩)
      rw [hnv]
      rcases main with ⟨t, e4, e5⟩ | ⟨e4, δ', e5, x4, x5, e6⟩
      · have : (own.all fun p => (List.range M.K).all fun k => decide (Mc.pa M p k ∈ own.map srt)) = false := by
          rw [Bool.eq_false_iff]
          intro hc
          have h1 := List.all_eq_true.mp hc t (List.mem_of_find?_eq_some e4)
          have h2 := List.find?_some e4
          rw [h1] at h2
          cases h2
        rw [this]
        exact fn_ok ((sq_nx e2).trans ((sq_nx ((if_f (tOr_f t1 ea)).trans rfl)).trans ((sq_nx e3).trans (sq_rt (for_ok rfl e5))))) rfl
      · have : (own.all fun p => (List.range M.K).all fun k => decide (Mc.pa M p k ∈ own.map srt)) = true := by
          refine List.all_eq_true.mpr fun p hp => ?_
          have := List.find?_eq_none.mp e4 p hp
          simpa using this
        rw [this]
        exact fn_ok ((sq_nx e2).trans ((sq_nx ((if_f (tOr_f t1 ea)).trans rfl)).trans ((sq_nx e3).trans ((sq_nx (for_ok rfl e5)).trans rfl)))) rfl
end
end K36
set_option Elab.async false
set_option linter.all false
set_option maxRecDepth 100000
set_option maxHeartbeats 1000000
/-! the plain facts of the law; the permuted machine -/
namespace K36
open PySem PySem.Spec L2 DW FW MK
section
variable {M : Mc} {B p q n k K a b s i j m z c : Nat} {δ : DEnv} {fa fb : FE} {PX : Xn → Prop} {f : List Pr} {pr : Pr} {own : List Pr} {w : List Nat}
theorem srt_cases (p : Pr) : srt p = p ∨ srt p = (p.2, p.1) := by
  unfold srt
  rcases Nat.le_total p.1 p.2 with g | g
  · exact .inl (by rw [Nat.min_eq_left g, Nat.max_eq_right g])
  · exact .inr (by rw [Nat.min_eq_right g, Nat.max_eq_left g])
theorem srt_eq {p q : Pr} (h : srt p = srt q) : p = q ∨ p = (q.2, q.1) := by
  rcases srt_cases p with a | a <;> rcases srt_cases q with b | b <;> rw [a, b] at h
  · exact .inl h
  · exact .inr h
  · right; rw [← h]
  · left; injection h with h1 h2; exact Prod.ext h2 h1
theorem pa_swap (p : Pr) (k : Nat) : Mc.pa M (p.2, p.1) k = Mc.pa M p k := by
  unfold Mc.pa srt
  rw [Nat.min_comm, Nat.max_comm]
theorem never_apart (hn : nv M own = true) : ∀ (w : List Nat) (p : Pr), (∀ i ∈ w, i < M.K) → srt p ∈ own.map srt → M.run p.1 w ≠ M.run p.2 w
  | w, p, hw, hp => by
    obtain ⟨p', hp', e⟩ := List.mem_map.mp hp
    unfold nv at hn
    simp only [Bool.and_eq_true] at hn
    have h1 := List.all_eq_true.mp hn.1.2 p' hp'
    have h2 := List.all_eq_true.mp hn.2 p' hp'
    unfold rgt at h1
    simp only [Bool.and_eq_true, decide_eq_true_eq, Bool.not_eq_true'] at h1
    have hne : p'.1 ≠ p'.2 := of_decide_eq_false h1.2.2
    have hpp := srt_eq e
    cases w with
    | nil =>
      show p.1 ≠ p.2
      rcases hpp with rfl | rfl
      · exact hne
      · exact fun z => hne z.symm
    | cons k w =>
      show M.run (M.st p.1 k) w ≠ M.run (M.st p.2 k) w
      have hk := hw k (List.mem_cons_self ..)
      have h3 := of_decide_eq_true (List.all_eq_true.mp h2 k (List.mem_range.mpr hk))
      have h4 : Mc.pa M p' k = Mc.pa M p k := by
        rcases hpp with rfl | rfl
        · rfl
        · exact pa_swap p k
      rw [h4] at h3
      refine never_apart (by unfold nv; simp only [Bool.and_eq_true]; exact hn) w (M.st p.1 k, M.st p.2 k) (fun i hi => hw i (List.mem_cons_of_mem _ hi)) h3
termination_by w => w.length
theorem nv_sgl (h : M.Ok 5) {k : Nat} (ke : SEnd M k) (hn : nv M own = true) : Mc.sgl M k = [] := by
  cases hc : Mc.sgl M k with
  | nil => rfl
  | cons e r =>
    have he : e ∈ Mc.sgl M k := by rw [hc]; exact List.mem_cons_self ..
    unfold Mc.sgl at he
    obtain ⟨g1, g2⟩ := List.mem_filter.mp he
    obtain ⟨r1, r2⟩ := ke.iv.run e g1
    have g3 := of_decide_eq_true g2
    rw [r1] at g3
    cases ho : own with
    | nil => rw [ho] at hn; cases hn
    | cons p r =>
      have hp : p ∈ own := by rw [ho]; exact List.mem_cons_self ..
      have hn' := hn
      unfold nv at hn'
      simp only [Bool.and_eq_true] at hn'
      have h1 := List.all_eq_true.mp hn'.1.2 p hp
      unfold rgt at h1
      simp only [Bool.and_eq_true, decide_eq_true_eq] at h1
      exact absurd (one_merges h r2 g3 p.1 p.2 h1.1 h1.2.1) (never_apart hn e.2 p r2 (List.mem_map.mpr ⟨p, hp, rfl⟩))
theorem nv_apt (h : M.Ok 5) (hne : Mc.apt M ≠ []) : nv M (Mc.apt M) = true := by
  have hm : ∀ p ∈ Mc.apt M, p ∈ prs M.tab.length ∧ p ∉ Mc.fx M := fun p hp => by
    unfold Mc.apt at hp
    obtain ⟨h1, h2⟩ := List.mem_filter.mp hp
    exact ⟨h1, by simpa using h2⟩
  unfold nv
  rw [Bool.and_eq_true, Bool.and_eq_true]
  refine ⟨⟨?_, List.all_eq_true.mpr fun p hp => ?_⟩, List.all_eq_true.mpr fun p hp => List.all_eq_true.mpr fun k hk => decide_eq_true ?_⟩
  · cases hc : Mc.apt M with
    | nil => exact absurd hc hne
    | cons a r => rfl
  · obtain ⟨h1, h2⟩ := mem_prs.mp (hm p hp).1
    unfold rgt
    simp only [Bool.and_eq_true, decide_eq_true_eq, Bool.not_eq_true', decide_eq_false_iff_not]
    omega
  · rw [List.mem_range] at hk
    obtain ⟨g1, g2⟩ := hm p hp
    obtain ⟨h1, h2⟩ := mem_prs.mp g1
    obtain ⟨_, _, _, c1⟩ := h.cell (show p.1 < M.tab.length by omega) hk
    obtain ⟨_, _, _, c2⟩ := h.cell h2 hk
    have hmg : Mc.mg M (Mc.fx M) p = false := by
      rw [Bool.eq_false_iff]
      exact fun z => g2 (fx_clo h g1 z)
    have hk2 : ¬ ((decide ((Mc.pa M p k).1 = (Mc.pa M p k).2) || decide (Mc.pa M p k ∈ Mc.fx M)) = true) := fun z => by
      have : Mc.mg M (Mc.fx M) p = true := List.any_eq_true.mpr ⟨k, List.mem_range.mpr hk, z⟩
      rw [this] at hmg; cases hmg
    rw [Bool.or_eq_true, decide_eq_true_iff, decide_eq_true_iff] at hk2
    have a1 : (Mc.pa M p k).1 ≠ (Mc.pa M p k).2 := fun z => hk2 (.inl z)
    have a2 : Mc.pa M p k ∉ Mc.fx M := fun z => hk2 (.inr z)
    have b1 : (Mc.pa M p k).1 = min (M.st p.1 k) (M.st p.2 k) := rfl
    have b2 : (Mc.pa M p k).2 = max (M.st p.1 k) (M.st p.2 k) := rfl
    have hin : Mc.pa M p k ∈ Mc.apt M := by
      unfold Mc.apt
      refine List.mem_filter.mpr ⟨mem_prs.mpr ⟨by omega, by omega⟩, by simpa using a2⟩
    refine List.mem_map.mpr ⟨_, hin, ?_⟩
    unfold srt
    rw [Nat.min_eq_left (by omega), Nat.max_eq_right (by omega)]
/-! a machine whose first sign is a row drawn -/
def Mc.prm (M : Mc) (rs : List Nat) : Mc := ⟨M.K, (List.range M.tab.length).map fun s => rs.getD s 0 :: (M.tab.getD s []).drop 1, M.acc⟩
theorem prm_ok {rs : List Nat} (h : M.Ok B) (hl : rs.length = M.tab.length) (hr : ∀ r ∈ rs, r < M.tab.length) : (Mc.prm M rs).Ok B := by
  have et : (Mc.prm M rs).tab.length = M.tab.length := by show ((List.range M.tab.length).map _).length = _; rw [List.length_map, List.length_range]
  refine ⟨h.k, by rw [et]; exact h.n0, by rw [et]; exact h.n1, fun r hr2 => ?_⟩
  rw [et]
  obtain ⟨s, hs, rfl⟩ := List.mem_map.mp hr2
  rw [List.mem_range] at hs
  have hk := h.k
  have e : M.tab.getD s [] = M.tab[s] := by rw [List.getD_eq_getElem?_getD, List.getElem?_eq_getElem hs]; rfl
  obtain ⟨h1, h2⟩ := h.row _ (List.getElem_mem hs)
  rw [e]
  refine ⟨by rw [List.length_cons, List.length_drop, h1]; show M.K - 1 + 1 = M.K; omega, fun p hp => ?_⟩
  rcases List.mem_cons.mp hp with z | z
  · rw [z, List.getD_eq_getElem?_getD, List.getElem?_eq_getElem (by omega)]
    exact hr _ (List.getElem_mem _)
  · exact h2 p (List.mem_of_mem_drop z)
theorem sat_wh {t : FT} {b : FS} (Inv : Nat → DEnv → Prop) (Post : DEnv → Prop) (N : Nat) (hs : ∀ n δ, Inv n δ → (t δ = .ok false ∧ Post δ) ∨ (n < N ∧ t δ = .ok true ∧ (b δ).sat (fun o => ∃ δ', o = .nx δ' ∧ Inv (n + 1) δ') PX)) :
    ∀ (f n : Nat) (δ : DEnv), Inv n δ → n ≤ N → N - n < f → (whF t b f δ).sat (fun o => ∃ δ', o = .nx δ' ∧ Post δ') PX
  | 0, n, δ, _, _, h => absurd h (Nat.not_lt_zero _)
  | f + 1, n, δ, hi, hn, hf => by
    rcases hs n δ hi with ⟨h1, h2⟩ | ⟨h1, h2, h3⟩
    · rw [whF, h1]
      exact ⟨δ, rfl, h2⟩
    · rw [whF, h2]
      show ((b δ).bind _).sat _ _
      refine Tr.sat_bind.mpr (Tr.sat_of h3 fun o ho => ?_)
      obtain ⟨δ', rfl, h4⟩ := ho
      exact sat_wh Inv Post N hs f (n + 1) δ' h4 (by omega) (by omega)
end
end K36
set_option Elab.async false
set_option linter.all false
set_option maxRecDepth 100000
set_option maxHeartbeats 1000000
/-! the law's middle -/
namespace K36
open PySem PySem.Spec L2 DW FW MK
def l1 : FS := (sSetF 2 (fCallC 2 F__law_machine (aCons (fV 1) (aCons (fC (.int 5)) aNil))))
def l2 : FS := (sSetF 3 (fCall gLen (aCons (fOp gIx (fV 2) (fC (.int 1))) aNil)))
def l3 : FS := (sIfF (tB (fOp gEq (fCallC 2 F_take (aCons (fV 1) (aCons (fC (.int 2)) aNil))) (fC (.int 0)))) (sSq (sSetF 4 (fLstR1 (fV 3)))  (sSq (sSetF 5 (fLst aNil))  (sSq (sWhF (tB (fOp gGt (fCall gLen (aCons (fV 4) aNil)) (fC (.int 0)))) (sAppPopF 5 4 (fCallC 2 F_take (aCons (fV 1) (aCons (fCall gLen (aCons (fV 4) aNil)) aNil)))))  (sSetF 2 (fTup (aCons (fOp gIx (fV 2) (fC (.int 0))) (aCons (fCall gTupOf (aCons (fLc (iR1 (aCons (fV 3) aNil)) (gN 24) tYes (fOp gAdd (fTup (aFCons (fOp gIx (fV 5) (fV 24)) aNil)) (fSlice (fOp gIx (fOp gIx (fV 2) (fC (.int 1))) (fV 24)) (oS (fC (.int 1))) oN)) [24]) aNil)) (aFCons (fOp gIx (fV 2) (fC (.int 2))) aNil)))))))) sNx)
def l4 : FS := (sSetF 6 (fDispT (fTupR1 (fV 3)) (fC (.str ""))))
def l5 : FS := (sSetF 7 (fLst (aCons (fTupR1 (fV 3)) aNil)))
def l6 : FS := (sSetF 8 (fC (.int 0)))
def l7 : FS := (sWhF (tB (fOp gLt (fV 8) (fCall gLen (aCons (fV 7) aNil)))) (sSq (sForF (iR1 (aCons (fCall gLen (aCons (fOp gIx (fV 2) (fC (.int 0))) aNil)) aNil)) (gN 9) (sSq (sSetF 10 (fCall gTupOf (aCons (fSortSetI (fLc (iT (fOp gIx (fV 7) (fV 8))) (gN 24) tYes (fOp gIx (fOp gIx (fOp gIx (fV 2) (fC (.int 1))) (fV 24)) (fV 9)) [24])) aNil)))  (sIfF (tB (fOp (gDinz true) (fV 10) (fV 6))) (sSq (sPutF 6 (fV 10) (fOp gAdd (fOp gDgz (fV 6) (fOp gIx (fV 7) (fV 8))) (fOp gIx (fOp gIx (fV 2) (fC (.int 0))) (fV 9))))  (sAppF 7 (fV 10))) sNx)))  (sSetF 8 (fOp gAdd (fV 8) (fC (.int 1))))))
def l8 : FS := (sSetF 11 (fCallC 1 F__law_rank (aFCons (fLc (iLb (fV 7)) (gN 23) (tB (fOp gEq (fCall gLen (aCons (fV 23) aNil)) (fC (.int 1)))) (fOp gDgz (fV 6) (fV 23)) [23]) aNil)))
def l9 : FS := (sSetF 12 (fCallC 1 F_reset_word (aCons (fV 2) aNil)))
def l10 : FS := (sSetF 13 (fLst aNil))
def l11 : FS := (sForF (iR1 (aCons (fV 3) aNil)) (gN 14) (sExtF 13 (fLc (iR2 (aCons (fOp gAdd (fV 14) (fC (.int 1))) (aCons (fV 3) aNil))) (gN 17) tYes (fTup (aCons (fV 14) (aCons (fV 17) aNil))) [17])))
def l12 : FS := (sSetF 15 (fLst aNil))
def l13 : FS := (sForF (iR1 (aCons (fOp gAdd (fCall gLen (aCons (fV 13) aNil)) (fC (.int 1))) aNil)) (gN 16) (sFrzDF 13 (sForF (iL (fV 13)) (gTup 2 (gsCons (gN 14) (gsCons (gN 17) gsNil))) (sSq (sSetF 10 (fLc (iR1 (aCons (fCall gLen (aCons (fOp gIx (fV 2) (fC (.int 0))) aNil)) aNil)) (gN 9) tYes (fCall gTupOf (aCons (fCall gSortD (aCons (fLst (aFCons (fOp gIx (fOp gIx (fOp gIx (fV 2) (fC (.int 1))) (fV 14)) (fV 9)) (aFCons (fOp gIx (fOp gIx (fOp gIx (fV 2) (fC (.int 1))) (fV 17)) (fV 9)) aNil))) aNil)) aNil)) [9]))  (sIfF (tAndF (tB (fCall gAny (aCons (fLc (iLb (fV 10)) (gTup 2 (gsCons (gN 25) (gsCons (gN 26) gsNil))) tYes (fOr (fOp gEq (fV 25) (fV 26)) (fOp (gInL false) (fTup (aCons (fV 25) (aCons (fV 26) aNil))) (fV 15))) [25, 26]) aNil))) (tB (fOp (gInL true) (fTup (aCons (fV 14) (aCons (fV 17) aNil))) (fV 15)))) (sAppF 15 (fTup (aCons (fV 14) (aCons (fV 17) aNil)))) sNx)))))
def l14 : FS := (sSetF 18 (fLc (iL (fV 13)) (gN 22) (tB (fOp (gInL true) (fV 22) (fV 15))) (fV 22) [22]))
def l15 : FS := (sIfF (tOrF (tB (fOp gNe (fV 12) (fIf (tB (fOp gGt (fCall gLen (aCons (fV 11) aNil)) (fC (.int 0)))) (fTup (aCons (fC (.str "word")) (aFCons (fOp gIx (fV 11) (fC (.int 0))) aNil))) (fOp gAdd (fTup (aCons (fC (.str "never")) aNil)) (fOp gIx (fV 18) (fC (.int 0))))))) (tB (fOp gNe (fOp gGt (fCall gLen (aCons (fV 11) aNil)) (fC (.int 0))) (fOp gEq (fCall gLen (aCons (fV 18) aNil)) (fC (.int 0)))))) (sRetF (fC (.bool false))) sNx)
def l16 : FS := (sSetF 19 (fCall gTupOf (aCons (fV 18) aNil)))
def l17 : FS := (sForF (iR1 (aCons (fC (.int 6)) aNil)) (gN 16) (sSq (sSetF 20 (fCallC 2 F__law_never (aCons (fV 2) (aCons (fV 19) aNil))))  (sSq (sIfF (tOrF (tB (fOp gNe (fCallC 2 F_takes_never (aCons (fV 2) (aCons (fV 19) aNil))) (fV 20))) (tAndF (tB (fV 20)) (tB (fOp gGt (fCall gLen (aCons (fV 11) aNil)) (fC (.int 0)))))) (sRetF (fC (.bool false))) sNx)  (sSq (sSetF 8 (fCallC 2 F_take (aCons (fV 1) (aCons (fOp gAdd (fCall gLen (aCons (fV 19) aNil)) (fC (.int 1))) aNil))))  (sSq (sSetF 21 (fTup (aCons (fCallC 2 F_take (aCons (fV 1) (aCons (fOp gAdd (fV 3) (fC (.int 1))) aNil))) (aCons (fCallC 2 F_take (aCons (fV 1) (aCons (fOp gAdd (fV 3) (fC (.int 1))) aNil))) aNil))))  (sSetF 19 (fCallC 2 F__law_pick (aCons (fV 1) (aFCons (fLst (aCons (fOp gAdd (fSlice (fV 19) oN (oS (fV 8))) (fSlice (fV 19) (oS (fOp gAdd (fV 8) (fC (.int 1)))) oN)) (aCons (fOp gAdd (fOp gAdd (fSlice (fV 19) oN (oS (fV 8))) (fTup (aCons (fV 21) aNil))) (fSlice (fV 19) (oS (fV 8)) oN)) (aCons (fCall gTupOf (aCons (fV 18) aNil)) (aCons (fCall gTupOf (aCons (fLc (iT (fV 19)) (gTup 2 (gsCons (gN 14) (gsCons (gN 17) gsNil))) tYes (fTup (aCons (fV 17) (aCons (fV 14) aNil))) [14, 17]) aNil)) aNil))))) aNil)))))))))
def l18 : FS := (sRetF (fOr (fOp gEq (fCall gLen (aCons (fV 18) aNil)) (fC (.int 0))) (fOp (gIsB false) (fCallC 2 F_takes_never (aCons (fV 2) (aCons (fCall gTupOf (aCons (fV 18) aNil)) aNil))) (fC (.bool true)))))
theorem l_eq : B_law = sSq l1 (sSq l2 (sSq l3 (sSq l4 (sSq l5 (sSq l6 (sSq l7 (sSq l8 (sSq l9 (sSq l10 (sSq l11 (sSq l12 (sSq l13 (sSq l14 (sSq l15 (sSq l16 (sSq l17 l18)))))))))))))))) := rfl
section
variable {M : Mc} {B p q n k K a b s i j m z c : Nat} {δ : DEnv} {fa fb : FE} {PX : Xn → Prop} {f : List Pr} {pr : Pr} {own : List Pr} {w : List Nat} {e : Es}
variable {x4 x5 x6 x7 x8 x9 x10 x11 x12 x13 x14 x15 x16 x17 x18 x19 x20 x21 : Option SV}
theorem l7_eq : l7 = lsL := rfl
def l11B : FS := (sExtF 13 (fLc (iR2 (aCons (fOp gAdd (fV 14) (fC (.int 1))) (aCons (fV 3) aNil))) (gN 17) tYes (fTup (aCons (fV 14) (aCons (fV 17) aNil))) [17]))
theorem l11_eq : l11 = sForF (iR1 (aCons (fV 3) aNil)) (gN 14) l11B := rfl
def prsU (n m : Nat) : List Pr := (List.range m).flatMap fun p => (List.range' (p + 1) (n - (p + 1))).map fun q => (p, q)
theorem prsU_len (h : n ≤ 5) (hm : m ≤ n) : (prsU n m).length ≤ 10 := by
  have h1 : n = 0 ∨ n = 1 ∨ n = 2 ∨ n = 3 ∨ n = 4 ∨ n = 5 := by omega
  have h2 : m = 0 ∨ m = 1 ∨ m = 2 ∨ m = 3 ∨ m = 4 ∨ m = 5 := by omega
  rcases h1 with rfl | rfl | rfl | rfl | rfl | rfl <;> rcases h2 with rfl | rfl | rfl | rfl | rfl | rfl <;> first | (exfalso; omega) | decide
theorem l11_ok (h : M.Ok 5) : ∃ y14, l11 (lE M x4 x5 x6 x7 x8 x9 x10 x11 x12 (some (.ol [])) x14 x15 x16 x17 x18 x19 x20 x21) = .ok (.nx (lE M x4 x5 x6 x7 x8 x9 x10 x11 x12 (some (.ol ((prs M.tab.length).map encQ))) y14 x15 x16 x17 x18 x19 x20 x21)) := by
  have n1 := h.n1
  obtain ⟨δ', e1, y14, e2⟩ := forF_ix0 (g := gN 14) (b := l11B) (δ := lE M x4 x5 x6 x7 x8 x9 x10 x11 x12 (some (.ol [])) x14 x15 x16 x17 x18 x19 x20 x21)
    (fun p δ => ∃ y14, δ = lE M x4 x5 x6 x7 x8 x9 x10 x11 x12 (some (.ol ((prsU M.tab.length p).map encQ))) y14 x15 x16 x17 x18 x19 x20 x21) ((List.range M.tab.length).map encI) ⟨x14, rfl⟩ (by
      rintro p d δ hd ⟨y14, rfl⟩
      obtain ⟨hp, rfl⟩ := range_at hd
      have hl := prsU_len (m := p) n1 (by omega)
      have hl2 := prsU_len (m := p + 1) n1 (by omega)
      have es : prsU M.tab.length (p + 1) = prsU M.tab.length p ++ (List.range' (p + 1) (M.tab.length - (p + 1))).map fun q => (p, q) := by unfold prsU; rw [List.range_succ, List.flatMap_append, List.flatMap_singleton]
      refine ⟨_, _, rfl, ext_ok (r := .ol (((List.range' (p + 1) (M.tab.length - (p + 1))).map fun q => (p, q)).map encQ)) (ys := ((List.range' (p + 1) (M.tab.length - (p + 1))).map fun q => (p, q)).map encQ) rfl ?_ rfl ?_, some (.im (encI p)), ?_⟩
      · rw [List.map_map]
        exact flc_ok (e := encI) (h := encQ ∘ fun q => (p, q)) (ts := List.range' (p + 1) (M.tab.length - (p + 1))) (R2g_ok (a := p + 1) (b := M.tab.length) (cons_ok (op_ok rfl rfl rfl) (cons_ok rfl rfl)) (by omega) (by omega)) (by rw [List.length_range']; omega) fun q _ => ⟨_, _, rfl, tup2 rfl, rfl⟩
      · rw [List.length_map, List.length_map, List.length_map, List.length_range']; omega
      · rw [es, List.map_append]; rfl)
  subst e2
  rw [List.length_map, List.length_range] at e1
  refine ⟨y14, ?_⟩
  rw [l11_eq]
  exact for_ok (R1_ok (m := M.tab.length) (cons_ok rfl rfl) (by omega)) e1
def gB : FS := (sSq (sSetF 10 (fLc (iR1 (aCons (fCall gLen (aCons (fOp gIx (fV 2) (fC (.int 0))) aNil)) aNil)) (gN 9) tYes (fCall gTupOf (aCons (fCall gSortD (aCons (fLst (aFCons (fOp gIx (fOp gIx (fOp gIx (fV 2) (fC (.int 1))) (fV 14)) (fV 9)) (aFCons (fOp gIx (fOp gIx (fOp gIx (fV 2) (fC (.int 1))) (fV 17)) (fV 9)) aNil))) aNil)) aNil)) [9]))
 (sIfF (tAndF (tB (fCall gAny (aCons (fLc (iLb (fV 10)) (gTup 2 (gsCons (gN 25) (gsCons (gN 26) gsNil))) tYes (fOr (fOp gEq (fV 25) (fV 26)) (fOp (gInL false) (fTup (aCons (fV 25) (aCons (fV 26) aNil))) (fV 15))) [25, 26]) aNil))) (tB (fOp (gInL true) (fTup (aCons (fV 14) (aCons (fV 17) aNil))) (fV 15)))) (sAppF 15 (fTup (aCons (fV 14) (aCons (fV 17) aNil)))) sNx))
theorem l13_eq : l13 = sForF (iR1 (aCons (fOp gAdd (fCall gLen (aCons (fV 13) aNil)) (fC (.int 1))) aNil)) (gN 16) (sFrzDF 13 (sForF (iL (fV 13)) (gTup 2 (gsCons (gN 14) (gsCons (gN 17) gsNil))) gB)) := rfl
theorem gB_ok (h : M.Ok 5) (hp : pr ∈ prs M.tab.length) (hl : f.length ≤ 10) : ∃ y9 y10, gB (lE M x4 x5 x6 x7 x8 x9 x10 x11 x12 x13 (some (.im (encI pr.1))) (some (.ol (f.map encQ))) x16 (some (.im (encI pr.2))) x18 x19 x20 x21) =
    .ok (.nx (lE M x4 x5 x6 x7 x8 y9 y10 x11 x12 x13 (some (.im (encI pr.1))) (some (.ol ((Mc.stp M f pr).map encQ))) x16 (some (.im (encI pr.2))) x18 x19 x20 x21)) := by
  obtain ⟨h1, h2⟩ := mem_prs.mp hp
  have hk := h.k
  have e10 : sSetF 10 (fLc (iR1 (aCons (fCall gLen (aCons (fOp gIx (fV 2) (fC (.int 0))) aNil)) aNil)) (gN 9) tYes (fCall gTupOf (aCons (fCall gSortD (aCons (fLst (aFCons (fOp gIx (fOp gIx (fOp gIx (fV 2) (fC (.int 1))) (fV 14)) (fV 9)) (aFCons (fOp gIx (fOp gIx (fOp gIx (fV 2) (fC (.int 1))) (fV 17)) (fV 9)) aNil))) aNil)) aNil)) [9]) (lE M x4 x5 x6 x7 x8 x9 x10 x11 x12 x13 (some (.im (encI pr.1))) (some (.ol (f.map encQ))) x16 (some (.im (encI pr.2))) x18 x19 x20 x21) =
      .ok (.nx (lE M x4 x5 x6 x7 x8 x9 (some (.ol ((List.range M.K).map fun k => encQ (Mc.pa M pr k)))) x11 x12 x13 (some (.im (encI pr.1))) (some (.ol (f.map encQ))) x16 (some (.im (encI pr.2))) x18 x19 x20 x21)) :=
    set_ok (flc_ok (e := encI) (h := fun k => encQ (Mc.pa M pr k)) (ts := List.range M.K) (R1_ok (m := M.K) (cons_ok (lenK_ok h rfl) rfl) (by omega)) (by rw [List.length_range]; omega) fun k hk2 => ⟨_, _, rfl, pa_ok (p := pr.1) (q := pr.2) h (by omega) h2 (List.mem_range.mp hk2) rfl rfl rfl rfl, rfl⟩) rfl
  have et : tB (fCall gAny (aCons (fLc (iLb (fV 10)) (gTup 2 (gsCons (gN 25) (gsCons (gN 26) gsNil))) tYes (fOr (fOp gEq (fV 25) (fV 26)) (fOp (gInL false) (fTup (aCons (fV 25) (aCons (fV 26) aNil))) (fV 15))) [25, 26]) aNil)) (lE M x4 x5 x6 x7 x8 x9 (some (.ol ((List.range M.K).map fun k => encQ (Mc.pa M pr k)))) x11 x12 x13 (some (.im (encI pr.1))) (some (.ol (f.map encQ))) x16 (some (.im (encI pr.2))) x18 x19 x20 x21) = .ok (Mc.mg M f pr) := by
    refine tB_ok (call_ok (cons_ok (flc_ok (e := fun k => encQ (Mc.pa M pr k)) (h := fun k => .bool (decide ((Mc.pa M pr k).1 = (Mc.pa M pr k).2) || decide (Mc.pa M pr k ∈ f))) (ts := List.range M.K) rfl (by rw [List.length_range]; omega) fun k _ => ?_) rfl) any_map)
    refine ⟨_, .im (.bool (decide ((Mc.pa M pr k).1 = (Mc.pa M pr k).2) || decide (Mc.pa M pr k ∈ f))), rfl, ?_, rfl⟩
    exact or_ok (eq_nat (a := (Mc.pa M pr k).1) (b := (Mc.pa M pr k).2) rfl rfl) (inL_Q (neg := false) (q := Mc.pa M pr k) (ps := f) (tup2 rfl) rfl rfl)
  have et2 : tB (fOp (gInL true) (fTup (aCons (fV 14) (aCons (fV 17) aNil))) (fV 15)) (lE M x4 x5 x6 x7 x8 x9 (some (.ol ((List.range M.K).map fun k => encQ (Mc.pa M pr k)))) x11 x12 x13 (some (.im (encI pr.1))) (some (.ol (f.map encQ))) x16 (some (.im (encI pr.2))) x18 x19 x20 x21) = .ok (!decide (pr ∈ f)) := tB_ok (inL_Q (neg := true) (q := pr) (ps := f) (tup2 rfl) rfl rfl)
  refine ⟨x9, some (.ol ((List.range M.K).map fun k => encQ (Mc.pa M pr k))), (sq_nx e10).trans ?_⟩
  unfold Mc.stp
  cases hm : Mc.mg M f pr with
  | false =>
    rw [hm] at et
    rw [if_neg (fun z => by cases z.1)]
    exact (if_f (tAnd_f et)).trans rfl
  | true =>
    rw [hm] at et
    by_cases hin : pr ∈ f
    · rw [if_neg (fun z => z.2 hin)]
      exact (if_f (tAnd_t et (et2.trans (by rw [decide_eq_true hin]; rfl)))).trans rfl
    · rw [if_pos ⟨rfl, hin⟩]
      refine (if_t (tAnd_t et (et2.trans (by rw [decide_eq_false hin]; rfl)))).trans ((app_ok (d := encQ pr) (xs := f.map encQ) rfl (tup2 rfl) rfl (by rw [List.length_map]; omega)).trans ?_)
      rw [List.map_append]
      rfl
theorem g_sweep (h : M.Ok 5) : ∀ (l f : List Pr), (∀ p ∈ l, p ∈ prs M.tab.length) → Fo M f → ∀ x9 x10 x14 x17, ∃ y9 y10 y14 y17, forF (gTup 2 (gsCons (gN 14) (gsCons (gN 17) gsNil))) gB (l.map encQ) (lE M x4 x5 x6 x7 x8 x9 x10 x11 x12 x13 x14 (some (.ol (f.map encQ))) x16 x17 x18 x19 x20 x21) =
    .ok (.nx (lE M x4 x5 x6 x7 x8 y9 y10 x11 x12 x13 y14 (some (.ol ((l.foldl (Mc.stp M) f).map encQ))) x16 y17 x18 x19 x20 x21))
  | [], f, _, _, x9, x10, x14, x17 => ⟨x9, x10, x14, x17, rfl⟩
  | p :: l, f, hl, o, x9, x10, x14, x17 => by
    have hp := hl p (List.mem_cons_self ..)
    have hlen := o.len h
    have := prs_len h.n1
    obtain ⟨y9, y10, e1⟩ := gB_ok (M := M) (f := f) (pr := p) (x4 := x4) (x5 := x5) (x6 := x6) (x7 := x7) (x8 := x8) (x9 := x9) (x10 := x10) (x11 := x11) (x12 := x12) (x13 := x13) (x16 := x16) (x18 := x18) (x19 := x19) (x20 := x20) (x21 := x21) h hp (by omega)
    obtain ⟨z9, z10, z14, z17, e2⟩ := g_sweep h l (Mc.stp M f p) (fun q hq => hl q (List.mem_cons_of_mem _ hq)) (o.stp hp) y9 y10 (some (.im (encI p.1))) (some (.im (encI p.2)))
    refine ⟨z9, z10, z14, z17, ?_⟩
    rw [List.map_cons, forF]
    show (gB (lE M x4 x5 x6 x7 x8 x9 x10 x11 x12 x13 (some (.im (encI p.1))) (some (.ol (f.map encQ))) x16 (some (.im (encI p.2))) x18 x19 x20 x21)).bind _ = _
    rw [e1]
    exact e2
theorem l13_ok (h : M.Ok 5) : ∃ y9 y10 y14 y16 y17, l13 (lE M x4 x5 x6 x7 x8 x9 x10 x11 x12 (some (.ol ((prs M.tab.length).map encQ))) x14 (some (.ol [])) x16 x17 x18 x19 x20 x21) =
    .ok (.nx (lE M x4 x5 x6 x7 x8 y9 y10 x11 x12 (some (.im (.list ((prs M.tab.length).map encQ)))) y14 (some (.ol ((Mc.fx M).map encQ))) y16 y17 x18 x19 x20 x21)) := by
  have hpl := prs_len h.n1
  obtain ⟨δ', e1, e2⟩ := forF_ix0 (g := gN 16) (b := sFrzDF 13 (sForF (iL (fV 13)) (gTup 2 (gsCons (gN 14) (gsCons (gN 17) gsNil))) gB)) (δ := lE M x4 x5 x6 x7 x8 x9 x10 x11 x12 (some (.ol ((prs M.tab.length).map encQ))) x14 (some (.ol [])) x16 x17 x18 x19 x20 x21)
    (fun m δ => ∃ y9 y10 y13 y14 y16 y17, (y13 = some (.im (.list ((prs M.tab.length).map encQ))) ∨ (m = 0 ∧ y13 = some (.ol ((prs M.tab.length).map encQ)))) ∧ δ = lE M x4 x5 x6 x7 x8 y9 y10 x11 x12 y13 y14 (some (.ol ((Mc.FS M m).map encQ))) y16 y17 x18 x19 x20 x21) ((List.range ((prs M.tab.length).length + 1)).map encI) ⟨x9, x10, _, x14, x16, x17, .inr ⟨rfl, rfl⟩, rfl⟩ (by
      rintro m d δ hd ⟨y9, y10, y13, y14, y16, y17, hy, rfl⟩
      obtain ⟨z9, z10, z14, z17, e3⟩ := g_sweep (x4 := x4) (x5 := x5) (x6 := x6) (x7 := x7) (x8 := x8) (x11 := x11) (x12 := x12) (x13 := some (.im (.list ((prs M.tab.length).map encQ)))) (x16 := some (.im d)) (x18 := x18) (x19 := x19) (x20 := x20) (x21 := x21) h (prs M.tab.length) (Mc.FS M m) (fun p hp => hp) (Fo.FS m) y9 y10 y14 y17
      refine ⟨_, _, rfl, ?_, z9, z10, _, z14, some (.im d), z17, .inl rfl, rfl⟩
      rcases hy with rfl | ⟨_, rfl⟩
      · exact for_ok rfl e3
      · exact for_ok rfl e3)
  rw [List.length_map, List.length_range] at e2
  obtain ⟨y9, y10, y13, y14, y16, y17, hy, e2⟩ := e2
  have hy : y13 = some (.im (.list ((prs M.tab.length).map encQ))) := hy.elim id fun z => by omega
  subst hy
  rw [FS_law h] at e2
  subst e2
  refine ⟨y9, y10, y14, y16, y17, ?_⟩
  rw [l13_eq]
  refine for_ok (R1_ok (m := (prs M.tab.length).length + 1) (cons_ok (op_ok (y := .im (.int 1)) (x := .im (.int ((prs M.tab.length).length : Nat))) ?_ rfl rfl) rfl) (by omega)) e1
  have : fCall gLen (aCons (fV 13) aNil) (lE M x4 x5 x6 x7 x8 x9 x10 x11 x12 (some (.ol ((prs M.tab.length).map encQ))) x14 (some (.ol [])) x16 x17 x18 x19 x20 x21) = .ok (.im (.int (((prs M.tab.length).map encQ).length : Nat))) := call_ok (cons_ok rfl rfl) rfl
  rw [List.length_map] at this
  exact this
theorem l14_ok (h : M.Ok 5) : l14 (lE M x4 x5 x6 x7 x8 x9 x10 x11 x12 (some (.im (.list ((prs M.tab.length).map encQ)))) x14 (some (.ol ((Mc.fx M).map encQ))) x16 x17 x18 x19 x20 x21) =
    .ok (.nx (lE M x4 x5 x6 x7 x8 x9 x10 x11 x12 (some (.im (.list ((prs M.tab.length).map encQ)))) x14 (some (.ol ((Mc.fx M).map encQ))) x16 x17 (some (.ol ((Mc.apt M).map encQ))) x19 x20 x21)) := by
  have hpl := prs_len h.n1
  exact set_ok (r := .ol ((Mc.apt M).map encQ)) (flcIf_ok (e := encQ) (h := encQ) (c := fun p => !decide (p ∈ Mc.fx M)) (ts := prs M.tab.length) rfl (by omega) fun p _ => ⟨_, rfl, tB_ok (inL_Q (neg := true) (q := p) (ps := Mc.fx M) rfl rfl rfl), fun _ => ⟨_, rfl, rfl⟩⟩) rfl
theorem l8_ok (h : M.Ok 5) (ke : SEnd M k) : l8 (lE M x4 x5 (some (.oT (wd (Qs M k)))) (some (.ol ((Qs M k).map encE1))) x8 x9 x10 x11 x12 x13 x14 x15 x16 x17 x18 x19 x20 x21) =
    .ok (.nx (lE M x4 x5 (some (.oT (wd (Qs M k)))) (some (.ol ((Qs M k).map encE1))) x8 x9 x10 (some (.ol ((Mc.sgl M k).map fun e => .str (tx e.2)))) x12 x13 x14 x15 x16 x17 x18 x19 x20 x21)) := by
  have hK : 0 < M.K ∧ M.K ≤ 3 := by have := h.k; omega
  have v := ke.iv
  have few : (Qs M k).length ≤ 32 := SIv.few' h v
  have nd : ((Qs M k).map fun e : Es => e.1).Nodup := v.nd
  have e1 := flcIf_ok (e := encE1) (h := fun e : Es => .str (tx e.2)) (c := fun e : Es => decide (e.1.length = 1)) (g := gN 23) (t := tB (fOp gEq (fCall gLen (aCons (fV 23) aNil)) (fC (.int 1)))) (f := fOp gDgz (fV 6) (fV 23)) (fi := iLb (fV 7)) (vs := [23]) (δ := lE M x4 x5 (some (.oT (wd (Qs M k)))) (some (.ol ((Qs M k).map encE1))) x8 x9 x10 x11 x12 x13 x14 x15 x16 x17 x18 x19 x20 x21) (ts := Qs M k) rfl (Nat.le_trans few (by decide)) fun e he => ⟨_, rfl, eqlen1 rfl, fun _ => ⟨_, dgT_ok (kf := fun e : Es => e.1) (ν := fun e => .str (tx e.2)) nd he rfl rfl, rfl⟩⟩
  have hsub : ∀ e ∈ Mc.sgl M k, e ∈ Qs M k := fun e he => (List.mem_filter.mp he).1
  have hlen : (Mc.sgl M k).length ≤ 32 := Nat.le_trans (List.length_filter_le _ _) few
  have er := rank_ok (ws := (Mc.sgl M k).map fun e : Es => e.2) hK.1 hK.2 (by rw [List.length_map]; omega) (fun w hw => by
    obtain ⟨e, he, rfl⟩ := List.mem_map.mp hw
    obtain ⟨i, hi, ei⟩ := List.mem_iff_getElem.mp (hsub e he)
    have hi2 : i < (Qs M k).length := hi
    have := v.len i e (by rw [List.getElem?_eq_getElem hi, ei])
    exact ⟨by omega, (v.run e (hsub e he)).2⟩) (sgl_pw ke)
  rw [List.map_map] at er
  exact set_ok (callC_ok (fcons_ok e1 rfl rfl) rfl er) rfl
theorem shp_told (h : M.Ok 5) (ke : SEnd M k) : shp (Mc.told M k) = true ∧ PyData.eqv (Mc.told M k) (Mc.told M k) = true := by
  unfold Mc.told
  cases Mc.apt M with
  | cons p r =>
    refine ⟨?_, ?_⟩
    · unfold shp SeqAt.shaped encI
      rw [Bool.and_eq_true]
      exact ⟨by simp [PyData.canLay0, PyData.canLayAll0]; decide +kernel, decide_eq_true (by simp [PyData.depth, PyData.depthAll])⟩
    · unfold encI
      simp [PyData.eqv, PyData.eqvAll]
  | nil =>
    cases hs : Mc.sgl M k with
    | nil => exact ⟨by decide, by simp [PyData.eqv]⟩
    | cons e r =>
      have he : e ∈ Mc.sgl M k := by rw [hs]; exact List.mem_cons_self ..
      have sm := sm_K h (ke.iv.run e (List.mem_filter.mp he).1).2
      refine ⟨?_, ?_⟩
      · unfold shp SeqAt.shaped
        rw [Bool.and_eq_true]
        exact ⟨by simp [PyData.canLay0, PyData.canLayAll0, okTx sm]; decide +kernel, decide_eq_true (by simp [PyData.depth, PyData.depthAll])⟩
      · simp [PyData.eqv, PyData.eqvAll]
theorem gtlen {f : FE} {n : Nat} (hf : fCall gLen (aCons f aNil) δ = .ok (.im (.int (n : Nat)))) : fOp gGt (fCall gLen (aCons f aNil)) (fC (.int 0)) δ = .ok (.im (.bool (decide (0 < n)))) := by
  refine op_ok hf rfl ?_
  show Tr.ok (R.im (.bool (decide ((0 : Int) < _)))) = _
  rw [decide_eq_decide.mpr (show (0 : Int) < ((n : Nat) : Int) ↔ 0 < n by omega)]
theorem l15_ok (h : M.Ok 5) (ke : SEnd M k) : l15 (lE M x4 x5 x6 x7 x8 x9 x10 (some (.ol ((Mc.sgl M k).map fun e => .str (tx e.2)))) (some (.im (Mc.told M k))) x13 x14 x15 x16 x17 (some (.ol ((Mc.apt M).map encQ))) x19 x20 x21) =
    .ok (.nx (lE M x4 x5 x6 x7 x8 x9 x10 (some (.ol ((Mc.sgl M k).map fun e => .str (tx e.2)))) (some (.im (Mc.told M k))) x13 x14 x15 x16 x17 (some (.ol ((Mc.apt M).map encQ))) x19 x20 x21)) := by
  obtain ⟨g1, g2⟩ := shp_told h ke
  have hsa := sgl_apt h ke
  have l11 : ∀ δ : DEnv, fV 11 δ = .ok (.bl ((Mc.sgl M k).map fun e => .str (tx e.2))) → fCall gLen (aCons (fV 11) aNil) δ = .ok (.im (.int ((Mc.sgl M k).length : Nat))) := fun δ e => by
    have : fCall gLen (aCons (fV 11) aNil) δ = .ok (.im (.int (((Mc.sgl M k).map fun e : Es => PyData.str (tx e.2)).length : Nat))) := call_ok (cons_ok e rfl) rfl
    rw [List.length_map] at this
    exact this
  have l18 : ∀ δ : DEnv, fV 18 δ = .ok (.bl ((Mc.apt M).map encQ)) → fCall gLen (aCons (fV 18) aNil) δ = .ok (.im (.int ((Mc.apt M).length : Nat))) := fun δ e => by
    have : fCall gLen (aCons (fV 18) aNil) δ = .ok (.im (.int (((Mc.apt M).map encQ).length : Nat))) := call_ok (cons_ok e rfl) rfl
    rw [List.length_map] at this
    exact this
  have e1 : fIf (tB (fOp gGt (fCall gLen (aCons (fV 11) aNil)) (fC (.int 0)))) (fTup (aCons (fC (.str "word")) (aFCons (fOp gIx (fV 11) (fC (.int 0))) aNil))) (fOp gAdd (fTup (aCons (fC (.str "never")) aNil)) (fOp gIx (fV 18) (fC (.int 0)))) (lE M x4 x5 x6 x7 x8 x9 x10 (some (.ol ((Mc.sgl M k).map fun e => .str (tx e.2)))) (some (.im (Mc.told M k))) x13 x14 x15 x16 x17 (some (.ol ((Mc.apt M).map encQ))) x19 x20 x21) = .ok (.im (Mc.told M k)) := by
    have et := tB_ok (gtlen (l11 (lE M x4 x5 x6 x7 x8 x9 x10 (some (.ol ((Mc.sgl M k).map fun e => .str (tx e.2)))) (some (.im (Mc.told M k))) x13 x14 x15 x16 x17 (some (.ol ((Mc.apt M).map encQ))) x19 x20 x21) rfl))
    generalize hto : Mc.told M k = T at et ⊢
    unfold Mc.told at hto
    cases hs : Mc.sgl M k with
    | nil =>
      rw [hs] at et hto
      cases ha : Mc.apt M with
      | nil => exact absurd hs (hsa.mpr ha)
      | cons p r =>
        rw [ha] at hto
        subst hto
        exact fIf_f et (op_ok (tup1 rfl) (op_ok rfl rfl (ix_bl (i := 0) (xs := encQ p :: r.map encQ) rfl)) rfl)
    | cons e r =>
      rw [hs] at et hto
      have ha : Mc.apt M = [] := hsa.mp (by rw [hs]; exact List.cons_ne_nil _ _)
      rw [ha] at hto
      subst hto
      exact fIf_t et (tup2 (cons_ok rfl (fcons_ok (op_ok rfl rfl (ix_bl (i := 0) (xs := .str (tx e.2) :: r.map fun e : Es => PyData.str (tx e.2)) rfl)) rfl rfl)))
  refine (if_f (tOr_f (tB_ok (op_ok rfl e1 (by show gd (shp _ && shp _) (Tr.ok (R.im (PyData.bool (!PyData.eqv (Mc.told M k) (Mc.told M k))))) = .ok (.im (.bool false)); rw [g1, g2]; rfl))) (tB_ok (op_ok (gtlen (l11 _ rfl)) (eq_nat (a := (Mc.apt M).length) (b := 0) (l18 _ rfl) rfl) ?_)))).trans rfl
  have : decide (0 < (Mc.sgl M k).length) = decide ((Mc.apt M).length = 0) := by
    refine decide_eq_decide.mpr ?_
    rw [List.length_pos_iff, List.length_eq_zero_iff]
    exact hsa
  rw [this]
  cases decide ((Mc.apt M).length = 0) <;> rfl
/-- from the first words to the first own row -/
theorem mid_ok (h : M.Ok 5) (ke : SEnd M k) : ∃ y6 y7 y8 y9 y10 y13 y14 y15 y16 y17, (sSq l4 (sSq l5 (sSq l6 (sSq l7 (sSq l8 (sSq l9 (sSq l10 (sSq l11 (sSq l12 (sSq l13 (sSq l14 (sSq l15 l16)))))))))))) (lE M x4 x5 none none none none none none none none none none none none none none none none) =
    .ok (.nx (lE M x4 x5 y6 y7 y8 y9 y10 (some (.ol ((Mc.sgl M k).map fun e => .str (tx e.2)))) (some (.im (Mc.told M k))) y13 y14 y15 y16 y17 (some (.ol ((Mc.apt M).map encQ))) (some (.im (encPs (Mc.apt M)))) none none)) := by
  have n1 := h.n1
  obtain ⟨y8, y9, y10, e7⟩ := lsL_ok (x4 := x4) (x5 := x5) (x9 := none) (x10 := none) (x11 := none) (x12 := none) (x13 := none) (x14 := none) (x15 := none) (x16 := none) (x17 := none) (x18 := none) (x19 := none) (x20 := none) (x21 := none) h ke
  obtain ⟨y14, e11⟩ := l11_ok (x4 := x4) (x5 := x5) (x6 := some (.oT (wd (Qs M k)))) (x7 := some (.ol ((Qs M k).map encE1))) (x8 := y8) (x9 := y9) (x10 := y10) (x11 := some (.ol ((Mc.sgl M k).map fun e => .str (tx e.2)))) (x12 := some (.im (Mc.told M k))) (x14 := none) (x15 := none) (x16 := none) (x17 := none) (x18 := none) (x19 := none) (x20 := none) (x21 := none) h
  obtain ⟨z9, z10, z14, z16, z17, e13⟩ := l13_ok (x4 := x4) (x5 := x5) (x6 := some (.oT (wd (Qs M k)))) (x7 := some (.ol ((Qs M k).map encE1))) (x8 := y8) (x9 := y9) (x10 := y10) (x11 := some (.ol ((Mc.sgl M k).map fun e => .str (tx e.2)))) (x12 := some (.im (Mc.told M k))) (x14 := y14) (x16 := none) (x17 := none) (x18 := none) (x19 := none) (x20 := none) (x21 := none) h
  refine ⟨some (.oT (wd (Qs M k))), some (.ol ((Qs M k).map encE1)), y8, z9, z10, some (.im (.list ((prs M.tab.length).map encQ))), z14, some (.ol ((Mc.fx M).map encQ)), z16, z17, ?_⟩
  exact (sq_nx (set_ok (dispT_ok (tupR1_ok (n := M.tab.length) rfl (by omega))) rfl)).trans ((sq_nx (set_ok (r := .ol [encS (Mc.al0 M)]) (lst_ok (ds := [encS (Mc.al0 M)]) (cons_ok (tupR1_ok (n := M.tab.length) rfl (by omega)) rfl) rfl (show 1 ≤ 16777216 by decide)) rfl)).trans ((sq_nx rfl).trans ((sq_nx e7).trans ((sq_nx (l8_ok h ke)).trans ((sq_nx (set_ok (callC_ok (cons_ok rfl rfl) rfl (reset_ok h ke)) rfl)).trans
    ((sq_nx rfl).trans ((sq_nx e11).trans ((sq_nx rfl).trans ((sq_nx e13).trans ((sq_nx (l14_ok h)).trans ((sq_nx (l15_ok h ke)).trans (set_ok (r := .im (encPs (Mc.apt M))) (call_ok (cons_ok rfl rfl) rfl) rfl))))))))))))
end
end K36
set_option Elab.async false
set_option linter.all false
set_option maxRecDepth 100000
set_option maxHeartbeats 1000000
/-! the law's draws -/
namespace K36
open PySem PySem.Spec L2 DW FW MK
section
variable {M : Mc} {B p q n k K a b s i j m z c : Nat} {δ : DEnv} {fa fb : FE} {PX : Xn → Prop} {f : List Pr} {pr : Pr} {own : List Pr} {w : List Nat} {e : Es}
variable {x4 x5 x6 x7 x8 x9 x10 x11 x12 x13 x14 x15 x16 x17 x18 x19 x20 x21 : Option SV}
theorem cut_from {xs : List D} {j : Nat} : cutD xs (some ((j : Nat) : Int)) none = xs.drop j := by
  by_cases h : j ≤ xs.length
  · exact cut_drop h
  · unfold cutD
    have : HT.sIx xs.length 0 (some ((j : Nat) : Int)) = xs.length := by
      rw [HT.sIx_nat]
      omega
    rw [this, List.drop_eq_nil_of_le (Nat.le_refl _), List.drop_eq_nil_of_le (by omega), List.take_nil]
theorem cut_to {xs : List D} {j : Nat} : cutD xs none (some ((j : Nat) : Int)) = xs.take j := by
  unfold cutD
  have h1 : HT.sIx xs.length xs.length (some ((j : Nat) : Int)) = min j xs.length := by
    rw [HT.sIx_nat]
  have h2 : HT.sIx xs.length 0 none = 0 := rfl
  rw [h1, h2, List.drop_zero, Nat.sub_zero]
  by_cases h : j ≤ xs.length
  · rw [Nat.min_eq_left h]
  · rw [Nat.min_eq_right (by omega), List.take_length, List.take_of_length_le (by omega)]
theorem take_P {f fk : FE} {own : List Pr} {j : Nat} (hf : f δ = .ok (.im (encPs own))) (hk : fk δ = .ok (.im (.int (j : Nat)))) : fSlice f oN (oS fk) δ = .ok (.im (encPs (own.take j))) := by
  unfold fSlice
  rw [hf, bind_ok]
  have e : oS fk δ = .ok (some ((j : Nat) : Int)) := by unfold oS; rw [hk]; rfl
  show (oN δ).bind (fun l' => (oS fk δ).bind fun h => gSlice _ l' h) = _
  rw [e]
  show Tr.ok (R.im (.tuple (cutD (own.map encQ) none (some ((j : Nat) : Int))))) = _
  rw [cut_to, ← List.map_take]
  rfl
theorem drop_P {f fk : FE} {own : List Pr} {j : Nat} (hf : f δ = .ok (.im (encPs own))) (hk : fk δ = .ok (.im (.int (j : Nat)))) : fSlice f (oS fk) oN δ = .ok (.im (encPs (own.drop j))) := by
  unfold fSlice
  rw [hf, bind_ok]
  have e : oS fk δ = .ok (some ((j : Nat) : Int)) := by unfold oS; rw [hk]; rfl
  rw [e]
  show Tr.ok (R.im (.tuple (cutD (own.map encQ) (some ((j : Nat) : Int)) none))) = _
  rw [cut_from, ← List.map_drop]
  rfl
theorem add_P {fa fb : FE} {u v : List Pr} (ha : fa δ = .ok (.im (encPs u))) (hb : fb δ = .ok (.im (encPs v))) (hl : u.length + v.length ≤ 1000) : fOp gAdd fa fb δ = .ok (.im (encPs (u ++ v))) := by
  refine op_ok ha hb ?_
  show gd (szOk ((u.map encQ).length + (v.map encQ).length)) (Tr.ok (R.im (.tuple (u.map encQ ++ v.map encQ)))) = _
  rw [List.length_map, List.length_map]
  unfold szOk
  rw [decide_eq_true (by omega), ← List.map_append]
  rfl
def u0 : FS := (sSetF 20 (fCallC 2 F__law_never (aCons (fV 2) (aCons (fV 19) aNil))))
def u1 : FS := (sIfF (tOrF (tB (fOp gNe (fCallC 2 F_takes_never (aCons (fV 2) (aCons (fV 19) aNil))) (fV 20))) (tAndF (tB (fV 20)) (tB (fOp gGt (fCall gLen (aCons (fV 11) aNil)) (fC (.int 0)))))) (sRetF (fC (.bool false))) sNx)
def u2 : FS := (sSetF 8 (fCallC 2 F_take (aCons (fV 1) (aCons (fOp gAdd (fCall gLen (aCons (fV 19) aNil)) (fC (.int 1))) aNil))))
def u3 : FS := (sSetF 21 (fTup (aCons (fCallC 2 F_take (aCons (fV 1) (aCons (fOp gAdd (fV 3) (fC (.int 1))) aNil))) (aCons (fCallC 2 F_take (aCons (fV 1) (aCons (fOp gAdd (fV 3) (fC (.int 1))) aNil))) aNil))))
def o1 : FE := (fOp gAdd (fSlice (fV 19) oN (oS (fV 8))) (fSlice (fV 19) (oS (fOp gAdd (fV 8) (fC (.int 1)))) oN))
def o2 : FE := (fOp gAdd (fOp gAdd (fSlice (fV 19) oN (oS (fV 8))) (fTup (aCons (fV 21) aNil))) (fSlice (fV 19) (oS (fV 8)) oN))
def o3 : FE := (fCall gTupOf (aCons (fV 18) aNil))
def o4 : FE := (fCall gTupOf (aCons (fLc (iT (fV 19)) (gTup 2 (gsCons (gN 14) (gsCons (gN 17) gsNil))) tYes (fTup (aCons (fV 17) (aCons (fV 14) aNil))) [14, 17]) aNil))
def u4 : FS := (sSetF 19 (fCallC 2 F__law_pick (aCons (fV 1) (aFCons (fLst (aCons o1 (aCons o2 (aCons o3 (aCons o4 aNil))))) aNil))))
theorem l17_eq : l17 = sForF (iR1 (aCons (fC (.int 6)) aNil)) (gN 16) (sSq u0 (sSq u1 (sSq u2 (sSq u3 u4)))) := rfl
theorem u01_ok (h : M.Ok 5) (ke : SEnd M k) (hl : own.length ≤ 100) : (sSq u0 (sSq u1 (sSq u2 (sSq u3 u4)))) (lE M x4 x5 x6 x7 x8 x9 x10 (some (.ol ((Mc.sgl M k).map fun e => .str (tx e.2)))) x12 x13 x14 x15 x16 x17 x18 (some (.im (encPs own))) x20 x21) =
    (sSq u2 (sSq u3 u4)) (lE M x4 x5 x6 x7 x8 x9 x10 (some (.ol ((Mc.sgl M k).map fun e => .str (tx e.2)))) x12 x13 x14 x15 x16 x17 x18 (some (.im (encPs own))) (some (.im (.bool (nv M own)))) x21) := by
  have en : gNe (.im (.bool (nv M own))) (.im (.bool (nv M own))) = .ok (.im (.bool false)) := by cases nv M own <;> rfl
  have e0 : tB (fOp gNe (fCallC 2 F_takes_never (aCons (fV 2) (aCons (fV 19) aNil))) (fV 20)) (lE M x4 x5 x6 x7 x8 x9 x10 (some (.ol ((Mc.sgl M k).map fun e => .str (tx e.2)))) x12 x13 x14 x15 x16 x17 x18 (some (.im (encPs own))) (some (.im (.bool (nv M own)))) x21) = .ok false :=
    tB_ok (op_ok (callC_ok (cons_ok rfl (cons_ok rfl rfl)) rfl (takes_ok h hl)) rfl en)
  refine (sq_nx (set_ok (callC_ok (cons_ok rfl (cons_ok rfl rfl)) rfl (law_never_ok h hl)) rfl)).trans (sq_nx ((if_f (tOr_f e0 ?_)).trans rfl))
  cases hn : nv M own with
  | false => exact tAnd_f rfl
  | true =>
    have hs := nv_sgl h ke hn
    rw [hs]
    exact tAnd_t rfl rfl
/-- a fourth of the menu, at the rest -/
theorem u4_ok (h1 : fV 1 δ = .ok .drw) (h8 : fV 8 δ = .ok (.im (.int (i : Nat)))) (h18 : fV 18 δ = .ok (.bl ((Mc.apt M).map encQ))) (h19 : fV 19 δ = .ok (.im (encPs own))) (h21 : fV 21 δ = .ok (.im (encQ pr))) (hl : own.length ≤ 100) (ha : (Mc.apt M).length ≤ 10)
    (ho4 : o4 δ = .ok (.im (encPs (own.map fun p => (p.2, p.1))))) : SatB (u4 δ) (fun o => ∃ own' : List Pr, own'.length ≤ own.length + 10 ∧ o = .nx (δ.set 19 (some (.im (encPs own'))))) PX := by
  have e1 : o1 δ = .ok (.im (encPs (own.take i ++ own.drop (i + 1)))) := add_P (take_P h19 h8) (drop_P h19 (op_ok h8 rfl rfl)) (by rw [List.length_take, List.length_drop]; omega)
  have e2 : o2 δ = .ok (.im (encPs (own.take i ++ [pr] ++ own.drop i))) := add_P (add_P (v := [pr]) (take_P h19 h8) (tup1 (cons_ok h21 rfl)) (by rw [List.length_take]; show _ + 1 ≤ _; omega)) (drop_P h19 h8) (by rw [List.length_append, List.length_take, List.length_drop]; show _ + 1 + _ ≤ _; omega)
  have e3 : o3 δ = .ok (.im (encPs (Mc.apt M))) := call_ok (cons_ok h18 rfl) rfl
  have el : fLst (aCons o1 (aCons o2 (aCons o3 (aCons o4 aNil)))) δ = .ok (.ol [encPs (own.take i ++ own.drop (i + 1)), encPs (own.take i ++ [pr] ++ own.drop i), encPs (Mc.apt M), encPs (own.map fun p => (p.2, p.1))]) :=
    lst_ok (cons_ok e1 (cons_ok e2 (cons_ok e3 (cons_ok ho4 rfl)))) rfl (show 4 ≤ 16777216 by decide)
  refine sb_set (sb_callC (rs := [.drw, .im (.list [encPs (own.take i ++ own.drop (i + 1)), encPs (own.take i ++ [pr] ++ own.drop i), encPs (Mc.apt M), encPs (own.map fun p => (p.2, p.1))])]) (cons_ok h1 (fcons_ok el rfl rfl)) rfl (sb_of ⟨pick_list (fun z => by cases z) (show 4 ≤ 1000 by decide)⟩ fun r hr => ?_))
  obtain ⟨d, hd, er⟩ := hr
  subst er
  rcases List.mem_cons.mp hd with z | hd
  · exact ⟨_, rfl, own.take i ++ own.drop (i + 1), by rw [List.length_append, List.length_take, List.length_drop]; omega, by rw [z]⟩
  · rcases List.mem_cons.mp hd with z | hd
    · exact ⟨_, rfl, own.take i ++ [pr] ++ own.drop i, by rw [List.length_append, List.length_append, List.length_take, List.length_drop]; show _ + 1 + _ ≤ _; omega, by rw [z]⟩
    · rcases List.mem_cons.mp hd with z | hd
      · exact ⟨_, rfl, Mc.apt M, by omega, by rw [z]⟩
      · exact ⟨_, rfl, own.map fun p => (p.2, p.1), by rw [List.length_map]; omega, by rw [List.mem_singleton.mp hd]⟩
theorem o4_ok (hl : own.length ≤ 100) : o4 (lE M x4 x5 x6 x7 x8 x9 x10 x11 x12 x13 x14 x15 x16 x17 x18 (some (.im (encPs own))) x20 x21) = .ok (.im (encPs (own.map fun p => (p.2, p.1)))) := by
  have := flc_ok (e := encQ) (h := encQ ∘ fun p : Pr => (p.2, p.1)) (g := gTup 2 (gsCons (gN 14) (gsCons (gN 17) gsNil))) (f := fTup (aCons (fV 17) (aCons (fV 14) aNil))) (fi := iT (fV 19)) (vs := [14, 17]) (δ := lE M x4 x5 x6 x7 x8 x9 x10 x11 x12 x13 x14 x15 x16 x17 x18 (some (.im (encPs own))) x20 x21) (ts := own) rfl (by omega) fun p _ => ⟨_, _, rfl, tup2 rfl, rfl⟩
  rw [← List.map_map] at this
  exact call_ok (cons_ok this rfl) rfl
theorem sb_take {f fm : FE} {m : Nat} {P : R → Prop} (hd : f δ = .ok .drw) (hm : fm δ = .ok (.im (.int (m : Nat)))) (h1 : 1 ≤ m) (h2 : m < 1073741824) (h : ∀ r : Nat, r < m → P (.im (.int (r : Nat)))) : SatB (fCallC 2 F_take (aCons f (aCons fm aNil)) δ) P PX := ⟨sat_take hd hm h1 h2 h⟩
theorem turn_ok (h : M.Ok 5) (ke : SEnd M k) (hl : own.length ≤ 90) (hδ : δ = lE M x4 x5 x6 x7 x8 x9 x10 (some (.ol ((Mc.sgl M k).map fun e => .str (tx e.2)))) x12 x13 x14 x15 x16 x17 (some (.ol ((Mc.apt M).map encQ))) (some (.im (encPs own))) x20 x21) :
    SatB ((sSq u0 (sSq u1 (sSq u2 (sSq u3 u4)))) δ) (fun o => ∃ δ2, o = .nx δ2 ∧ ∃ (own' : List Pr) (y8 y20 y21 : Option SV), own'.length ≤ own.length + 10 ∧ δ2 = lE M x4 x5 x6 x7 y8 x9 x10 (some (.ol ((Mc.sgl M k).map fun e => .str (tx e.2)))) x12 x13 x14 x15 x16 x17 (some (.ol ((Mc.apt M).map encQ))) (some (.im (encPs own'))) y20 y21) PX := by
  have n1 := h.n1
  have ha : (Mc.apt M).length ≤ 10 := Nat.le_trans (List.length_filter_le _ _) (prs_len h.n1)
  rw [hδ, u01_ok h ke (by omega)]
  have el : ∀ δ : DEnv, fV 19 δ = .ok (.im (encPs own)) → fOp gAdd (fCall gLen (aCons (fV 19) aNil)) (fC (.int 1)) δ = .ok (.im (.int ((own.length + 1 : Nat) : Int))) := fun δ e => by
    have := lenT_ok (f := fV 19) (δ := δ) (xs := own.map encQ) e
    rw [List.length_map] at this
    exact op_ok this rfl rfl
  refine sb_sq (sb_set (sb_take (m := own.length + 1) rfl (el _ rfl) (by omega) (by omega) fun i hi => ⟨_, rfl, _, rfl, ?_⟩))
  refine sb_sq (sb_set ⟨sat_tup (sat_cons (sat_take (m := M.tab.length + 1) rfl rfl (by omega) (by omega) fun p hp => sat_cons (sat_take (m := M.tab.length + 1) rfl rfl (by omega) (by omega) fun q hq => sat_ok (a := []) rfl ⟨[encI p, encI q], rfl, (show 2 ≤ 16777216 by decide), _, rfl, _, rfl, ?_⟩)))⟩)
  refine sb_of (u4_ok (M := M) (i := i) (pr := (p, q)) (own := own) rfl rfl rfl rfl rfl (by omega) ha (o4_ok (by omega))) fun o ho => ?_
  obtain ⟨own', g1, g2⟩ := ho
  exact ⟨_, g2, own', _, _, _, g1, rfl⟩
theorem l17_ok (h : M.Ok 5) (ke : SEnd M k) (hδ : δ = lE M x4 x5 x6 x7 x8 x9 x10 (some (.ol ((Mc.sgl M k).map fun e => .str (tx e.2)))) x12 x13 x14 x15 x16 x17 (some (.ol ((Mc.apt M).map encQ))) (some (.im (encPs (Mc.apt M)))) x20 x21) :
    SatB (l17 δ) (fun o => ∃ δ2, o = .nx δ2 ∧ ∃ (y8 y16 y19 y20 y21 : Option SV), δ2 = lE M x4 x5 x6 x7 y8 x9 x10 (some (.ol ((Mc.sgl M k).map fun e => .str (tx e.2)))) x12 x13 x14 x15 y16 x17 (some (.ol ((Mc.apt M).map encQ))) y19 y20 y21) PX := by
  have ha : (Mc.apt M).length ≤ 10 := Nat.le_trans (List.length_filter_le _ _) (prs_len h.n1)
  rw [l17_eq]
  exact sb_for (items := (List.range 6).map fun i => .int (i : Nat)) (fun i δ => i ≤ 6 → ∃ (own : List Pr) (y8 y16 y20 y21 : Option SV), own.length ≤ 10 + 10 * i ∧ δ = lE M x4 x5 x6 x7 y8 x9 x10 (some (.ol ((Mc.sgl M k).map fun e => .str (tx e.2)))) x12 x13 x14 x15 y16 x17 (some (.ol ((Mc.apt M).map encQ))) (some (.im (encPs own))) y20 y21) (R1_ok (m := 6) (by rw [hδ]; rfl) (by omega))
    (fun _ => ⟨Mc.apt M, x8, x16, x20, x21, by omega, hδ⟩) (fun i d δ hd hI => by
      have hi := (List.getElem?_eq_some_iff.mp hd).1
      rw [List.length_map, List.length_range] at hi
      obtain ⟨own, y8, y16, y20, y21, hl, hδ2⟩ := hI (by omega)
      refine ⟨lE M x4 x5 x6 x7 y8 x9 x10 (some (.ol ((Mc.sgl M k).map fun e => .str (tx e.2)))) x12 x13 x14 x15 (some (.im d)) x17 (some (.ol ((Mc.apt M).map encQ))) (some (.im (encPs own))) y20 y21, by rw [hδ2]; rfl, sb_of (turn_ok h ke (by omega) rfl) fun o ho => ?_⟩
      obtain ⟨δ2, e1, own', z8, z20, z21, g1, g2⟩ := ho
      exact ⟨δ2, e1, fun _ => ⟨own', z8, _, z20, z21, by omega, g2⟩⟩) fun δ' ho => by
    obtain ⟨own, y8, y16, y20, y21, _, hδ2⟩ := ho (by rw [List.length_map, List.length_range]; exact Nat.le_refl _)
    exact ⟨δ', rfl, y8, y16, _, y20, y21, hδ2⟩
theorem l18_ok (h : M.Ok 5) (hδ : δ = lE M x4 x5 x6 x7 x8 x9 x10 x11 x12 x13 x14 x15 x16 x17 (some (.ol ((Mc.apt M).map encQ))) x19 x20 x21) : l18 δ = .ok (.rt (.im (.bool true))) := by
  have ha : (Mc.apt M).length ≤ 10 := Nat.le_trans (List.length_filter_le _ _) (prs_len h.n1)
  subst hδ
  have l18 : fCall gLen (aCons (fV 18) aNil) (lE M x4 x5 x6 x7 x8 x9 x10 x11 x12 x13 x14 x15 x16 x17 (some (.ol ((Mc.apt M).map encQ))) x19 x20 x21) = .ok (.im (.int ((Mc.apt M).length : Nat))) := by
    have : fCall gLen (aCons (fV 18) aNil) (lE M x4 x5 x6 x7 x8 x9 x10 x11 x12 x13 x14 x15 x16 x17 (some (.ol ((Mc.apt M).map encQ))) x19 x20 x21) = .ok (.im (.int (((Mc.apt M).map encQ).length : Nat))) := call_ok (cons_ok rfl rfl) rfl
    rw [List.length_map] at this
    exact this
  have e1 := eq_nat (b := 0) (fb := fC (.int 0)) l18 rfl
  refine ret_ok (r := .im (.bool true)) ?_
  unfold fOr
  rw [e1, bind_ok]
  by_cases hz : (Mc.apt M).length = 0
  · rw [decide_eq_true hz]
  · rw [decide_eq_false hz]
    have hn := nv_apt h (fun z => hz (by rw [z]; rfl))
    have ec := takes_ok (own := Mc.apt M) h (by omega)
    rw [hn] at ec
    exact op_ok (callC_ok (cons_ok rfl (cons_ok (call_ok (cons_ok rfl rfl) rfl) rfl)) rfl ec) rfl rfl
theorem rest_ok (h : M.Ok 5) (hδ : δ = lE M x4 x5 none none none none none none none none none none none none none none none none) : SatB ((sSq l4 (sSq l5 (sSq l6 (sSq l7 (sSq l8 (sSq l9 (sSq l10 (sSq l11 (sSq l12 (sSq l13 (sSq l14 (sSq l15 (sSq l16 (sSq l17 l18)))))))))))))) δ) (fun o => o = .rt (.im (.bool true))) PX := by
  obtain ⟨k, ke⟩ := sEnd h
  obtain ⟨y6, y7, y8, y9, y10, y13, y14, y15, y16, y17, em⟩ := mid_ok (x4 := x4) (x5 := x5) h ke
  have assoc : ∀ (s t u : FS) (δ : DEnv), sSq s (sSq t u) δ = sSq (sSq s t) u δ := fun s t u δ => by
    unfold sSq
    cases s δ with
    | ok o => cases o <;> rfl
    | ex x => rfl
    | no => rfl
    | draw m k =>
      show Tr.draw m _ = Tr.draw m _
      congr 1
      funext r
      rw [Tr.bind_assoc]
      congr 1
      funext o
      cases o <;> rfl
  have fl : ∀ (δ : DEnv), (sSq l4 (sSq l5 (sSq l6 (sSq l7 (sSq l8 (sSq l9 (sSq l10 (sSq l11 (sSq l12 (sSq l13 (sSq l14 (sSq l15 (sSq l16 (sSq l17 l18)))))))))))))) δ = sSq (sSq l4 (sSq l5 (sSq l6 (sSq l7 (sSq l8 (sSq l9 (sSq l10 (sSq l11 (sSq l12 (sSq l13 (sSq l14 (sSq l15 l16)))))))))))) (sSq l17 l18) δ := by
    intro δ
    have a : ∀ (s t u : FS), sSq s (sSq t u) = sSq (sSq s t) u := fun s t u => funext (assoc s t u)
    rw [← a, ← a, ← a, ← a, ← a, ← a, ← a, ← a, ← a, ← a, ← a, ← a]
  rw [fl, hδ]
  exact sb_sqo em (sb_sq (sb_of (l17_ok h ke rfl) fun o ho => by
    obtain ⟨δ2, e1, z8, z16, z19, z20, z21, e2⟩ := ho
    exact ⟨δ2, e1, sb_ok (l18_ok h e2) rfl⟩))
end
end K36
set_option Elab.async false
set_option linter.all false
set_option maxRecDepth 100000
set_option maxHeartbeats 1000000
/-! the law is kept -/
namespace K36
open PySem PySem.Spec L2 DW FW MK
section
variable {M : Mc} {B p q n k K a b s i j m z c : Nat} {δ : DEnv} {fa fb : FE} {PX : Xn → Prop} {f : List Pr} {pr : Pr} {own : List Pr} {w ls rs : List Nat} {e : Es}
variable {x4 x5 x6 x7 x8 x9 x10 x11 x12 x13 x14 x15 x16 x17 x18 x19 x20 x21 : Option SV}
def l0 (M : Mc) (x4 x5 : Option SV) : DEnv := lE M x4 x5 none none none none none none none none none none none none none none none none
def v3 : FS := (sWhF (tB (fOp gGt (fCall gLen (aCons (fV 4) aNil)) (fC (.int 0)))) (sAppPopF 5 4 (fCallC 2 F_take (aCons (fV 1) (aCons (fCall gLen (aCons (fV 4) aNil)) aNil)))))
def v4 : FS := (sSetF 2 (fTup (aCons (fOp gIx (fV 2) (fC (.int 0))) (aCons (fCall gTupOf (aCons (fLc (iR1 (aCons (fV 3) aNil)) (gN 24) tYes (fOp gAdd (fTup (aFCons (fOp gIx (fV 5) (fV 24)) aNil)) (fSlice (fOp gIx (fOp gIx (fV 2) (fC (.int 1))) (fV 24)) (oS (fC (.int 1))) oN)) [24]) aNil)) (aFCons (fOp gIx (fV 2) (fC (.int 2))) aNil)))))
theorem l3_eq : l3 = sIfF (tB (fOp gEq (fCallC 2 F_take (aCons (fV 1) (aCons (fC (.int 2)) aNil))) (fC (.int 0)))) (sSq (sSetF 4 (fLstR1 (fV 3))) (sSq (sSetF 5 (fLst aNil)) (sSq v3 v4))) sNx := rfl
theorem len4 {xs : List D} (h4 : fV 4 δ = .ok (.bl xs)) : fCall gLen (aCons (fV 4) aNil) δ = .ok (.im (.int (xs.length : Nat))) := call_ok (cons_ok h4 rfl) rfl
theorem erase_map {α β : Type} {g : α → β} : ∀ (l : List α) (i : Nat), (l.map g).eraseIdx i = (l.eraseIdx i).map g
  | [], _ => rfl
  | a :: l, 0 => rfl
  | a :: l, i + 1 => by
    show g a :: (l.map g).eraseIdx i = g a :: (l.eraseIdx i).map g
    rw [erase_map l i]
theorem v3_ok (h : M.Ok 5) (hδ : δ = l0 M (some (.ol ((List.range M.tab.length).map encI))) (some (.ol []))) : SatB (v3 δ) (fun o => ∃ δ2, o = .nx δ2 ∧ ∃ rs : List Nat, rs.length = M.tab.length ∧ (∀ r ∈ rs, r < M.tab.length) ∧ ∃ y4, δ2 = l0 M y4 (some (.ol (rs.map encI)))) PX := by
  have n1 := h.n1
  have n0 := h.n0
  refine ⟨sat_wh (t := tB (fOp gGt (fCall gLen (aCons (fV 4) aNil)) (fC (.int 0)))) (b := sAppPopF 5 4 (fCallC 2 F_take (aCons (fV 1) (aCons (fCall gLen (aCons (fV 4) aNil)) aNil))))
    (fun m δ => m ≤ M.tab.length ∧ ∃ ls rs : List Nat, ls.length + m = M.tab.length ∧ rs.length = m ∧ (∀ r ∈ ls, r < M.tab.length) ∧ (∀ r ∈ rs, r < M.tab.length) ∧ δ = l0 M (some (.ol (ls.map encI))) (some (.ol (rs.map encI))))
    (fun δ2 => ∃ rs : List Nat, rs.length = M.tab.length ∧ (∀ r ∈ rs, r < M.tab.length) ∧ ∃ y4, δ2 = l0 M y4 (some (.ol (rs.map encI)))) M.tab.length (fun m δ hI => ?_) fuel 0 δ ⟨Nat.zero_le _, List.range M.tab.length, [], by rw [List.length_range]; rfl, rfl, fun r hr => List.mem_range.mp hr, fun r hr => (by cases hr), hδ⟩ (Nat.zero_le _) (by unfold fuel; omega)⟩
  obtain ⟨hm, ls, rs, g1, g2, g3, g4, hδ2⟩ := hI
  have e4 : fCall gLen (aCons (fV 4) aNil) δ = .ok (.im (.int (ls.length : Nat))) := by
    have := len4 (δ := δ) (xs := ls.map encI) (by rw [hδ2]; rfl)
    rw [List.length_map] at this
    exact this
  have tst := tB_ok (gtlen e4)
  by_cases hz : 0 < ls.length
  · refine .inr ⟨by omega, by rw [tst, decide_eq_true hz], ?_⟩
    have s5 : slotD δ 5 = some (.ol (rs.map encI)) := by rw [hδ2]; rfl
    have s4 : slotD δ 4 = some (.ol (ls.map encI)) := by rw [hδ2]; rfl
    unfold sAppPopF
    rw [s5, s4]
    refine Tr.sat_bind.mpr (sat_take (m := ls.length) (by rw [hδ2]; rfl) e4 hz (by omega) fun r hr => ?_)
    have e1 : (ls.map encI)[((r : Nat) : Int).toNat]? = some (encI ls[r]) := by rw [Int.toNat_natCast, List.getElem?_map, List.getElem?_eq_getElem hr]; rfl
    show (gd (decide ((0 : Int) ≤ ((r : Nat) : Int)) && decide (((r : Nat) : Int).toNat < 16777216) && decide ((rs.map encI).length < 16777216) && decide (5 ≠ 4)) ((ofO (ls.map encI)[((r : Nat) : Int).toNat]?).bind _)).sat _ _
    rw [decide_eq_true (show (0 : Int) ≤ ((r : Nat) : Int) by omega), decide_eq_true (show ((r : Nat) : Int).toNat < 16777216 by rw [Int.toNat_natCast]; omega), decide_eq_true (show (rs.map encI).length < 16777216 by rw [List.length_map]; omega), e1]
    refine ⟨l0 M (some (.ol ((ls.eraseIdx r).map encI))) (some (.ol ((rs ++ [ls[r]]).map encI))), ?_, by omega, ls.eraseIdx r, rs ++ [ls[r]], by rw [List.length_eraseIdx_of_lt hr]; omega, by rw [List.length_append, g2]; rfl, fun x hx => g3 x (List.mem_of_mem_eraseIdx hx), fun x hx => ?_, rfl⟩
    · rw [hδ2, Int.toNat_natCast, erase_map, List.map_append]
      rfl
    · rcases List.mem_append.mp hx with z | z
      · exact g4 x z
      · rw [List.mem_singleton.mp z]; exact g3 _ (List.getElem_mem hr)
  · exact .inl ⟨by rw [tst, decide_eq_false hz], rs, by omega, g4, _, hδ2⟩
theorem prm_len : (Mc.prm M rs).tab.length = M.tab.length := by show ((List.range M.tab.length).map _).length = _; rw [List.length_map, List.length_range]
theorem v4_ok (h : M.Ok 5) (hl : rs.length = M.tab.length) : v4 (l0 M x4 (some (.ol (rs.map encI)))) = .ok (.nx (l0 (Mc.prm M rs) x4 (some (.ol (rs.map encI))))) := by
  have n1 := h.n1
  have e1 : fLc (iR1 (aCons (fV 3) aNil)) (gN 24) tYes (fOp gAdd (fTup (aFCons (fOp gIx (fV 5) (fV 24)) aNil)) (fSlice (fOp gIx (fOp gIx (fV 2) (fC (.int 1))) (fV 24)) (oS (fC (.int 1))) oN)) [24] (l0 M x4 (some (.ol (rs.map encI)))) = .ok (.ol ((List.range M.tab.length).map fun s => PyData.tuple ((rs.getD s 0 :: (M.tab.getD s []).drop 1).map encI))) := by
    refine flc_ok (e := encI) (h := fun s => PyData.tuple ((rs.getD s 0 :: (M.tab.getD s []).drop 1).map encI)) (ts := List.range M.tab.length) (R1_ok (m := M.tab.length) rfl (by omega)) (by rw [List.length_range]; omega) fun s hs => ?_
    rw [List.mem_range] at hs
    have hk := h.k
    have er : M.tab.getD s [] = M.tab[s] := by rw [List.getD_eq_getElem?_getD, List.getElem?_eq_getElem hs]; rfl
    have es : rs.getD s 0 = rs[s]'(by omega) := by rw [List.getD_eq_getElem?_getD, List.getElem?_eq_getElem (by omega)]; rfl
    obtain ⟨c1, _⟩ := h.row _ (List.getElem_mem hs)
    refine ⟨_, .im (.tuple ((rs.getD s 0 :: (M.tab.getD s []).drop 1).map encI)), rfl, op_ok (x := .im (.tuple [encI (rs.getD s 0)])) (y := .im (.tuple (((M.tab.getD s []).map encI).drop 1))) (tup1 (fcons_ok (op_ok rfl rfl (ix_bl (i := s) (d := encI (rs.getD s 0)) (by rw [List.getElem?_map, List.getElem?_eq_getElem (by omega), es]; rfl))) rfl rfl)) ?_ ?_, rfl⟩
    · unfold fSlice
      rw [op_ok (z := .im (.tuple ((M.tab.getD s []).map encI))) (op_ok rfl rfl rfl) rfl (rowsAt (by rw [er, List.getElem?_eq_getElem hs]))]
      show Tr.ok (R.im (.tuple (cutD ((M.tab.getD s []).map encI) (some ((1 : Nat) : Int)) none))) = _
      rw [cut_from]
    · show gd (szOk (1 + (((M.tab.getD s []).map encI).drop 1).length)) (Tr.ok (R.im (.tuple (encI (rs.getD s 0) :: ((M.tab.getD s []).map encI).drop 1)))) = _
      unfold szOk
      rw [decide_eq_true (by rw [List.length_drop, List.length_map, er, c1]; omega), ← List.map_drop]
      rfl
  have e2 : (Mc.prm M rs).enc = .tuple [.str M.al, .tuple ((List.range M.tab.length).map fun s => PyData.tuple ((rs.getD s 0 :: (M.tab.getD s []).drop 1).map encI)), .tuple (M.acc.map encI)] := by
    unfold Mc.enc Mc.prm encT Mc.al
    rw [List.map_map]
    rfl
  refine (set_ok (r := .im (Mc.prm M rs).enc) ?_ rfl).trans ?_
  · rw [e2]
    exact tup3 (cons_ok (op_ok rfl rfl rfl) (cons_ok (call_ok (cons_ok e1 rfl) rfl) (fcons_ok (op_ok rfl rfl rfl) rfl rfl)))
  · unfold l0 lE
    rw [prm_len]
    rfl
theorem sb_if {ft : FT} {a b : FS} {PF : Fl → Prop} (h : SatB (ft δ) (fun c => (c = true → SatB (a δ) PF PX) ∧ (c = false → SatB (b δ) PF PX)) PX) : SatB (sIfF ft a b δ) PF PX := ⟨by
  unfold sIfF
  refine Tr.sat_bind.mpr (Tr.sat_of h.h fun c hc => ?_)
  cases c with
  | true => exact (hc.1 rfl).h
  | false => exact (hc.2 rfl).h⟩
theorem l3_ok (h : M.Ok 5) (hδ : δ = l0 M none none) : SatB (l3 δ) (fun o => ∃ δ2, o = .nx δ2 ∧ ∃ (M' : Mc) (y4 y5 : Option SV), M'.Ok 5 ∧ δ2 = l0 M' y4 y5) PX := by
  have n1 := h.n1
  rw [l3_eq]
  refine sb_if ⟨Tr.sat_bind.mpr (sat_op (sat_take (m := 2) (by rw [hδ]; rfl) rfl (by decide) (by decide) fun r hr => sat_ok (a := .im (.int 0)) rfl (sat_ok (a := .im (.bool (decide (r = 0)))) ?_ ?_)))⟩
  · show gd (shp (.int (r : Nat)) && shp (.int (0 : Nat))) (Tr.ok (R.im (PyData.bool (PyData.eqv (.int (r : Nat)) (.int (0 : Nat)))))) = _
    rw [shp_nat, shp_nat, eqv_nat]; rfl
  show (decide (r = 0) = true → SatB _ _ _) ∧ (decide (r = 0) = false → SatB _ _ _)
  refine ⟨fun _ => ?_, fun _ => ?_⟩
  · have e4 : sSetF 4 (fLstR1 (fV 3)) δ = .ok (.nx (l0 M (some (.ol ((List.range M.tab.length).map encI))) none)) := by
      rw [hδ]
      refine set_ok (r := .ol ((List.range M.tab.length).map encI)) ?_ rfl
      unfold fLstR1
      show gd (decide ((0 : Int) ≤ ((M.tab.length : Nat) : Int)) && decide (((M.tab.length : Nat) : Int) ≤ 16777216)) (Tr.ok (R.ol (intsD 0 ((M.tab.length : Nat) : Int).toNat))) = _
      rw [decide_eq_true (by omega), decide_eq_true (by omega)]
      show Tr.ok (R.ol (intsD 0 ((M.tab.length : Nat) : Int).toNat)) = _
      have : intsD 0 ((M.tab.length : Nat) : Int).toNat = (List.range M.tab.length).map encI := by
        unfold intsD
        rw [Int.toNat_natCast]
        exact List.map_congr_left fun i _ => by rw [Int.zero_add]; rfl
      rw [this]
    refine sb_sqo e4 (sb_sqo (δ' := l0 M (some (.ol ((List.range M.tab.length).map encI))) (some (.ol []))) rfl (sb_sq (sb_of (v3_ok h rfl) fun o ho => ?_)))
    obtain ⟨δ2, e1, rs, g1, g2, y4, e2⟩ := ho
    refine ⟨δ2, e1, ?_⟩
    rw [e2]
    exact sb_ok (v4_ok h g1) ⟨_, rfl, Mc.prm M rs, _, _, prm_ok h g1 g2, rfl⟩
  · exact sb_ok rfl ⟨δ, rfl, M, _, _, h, hδ⟩
theorem main1 (hδ : δ = [none, some .drw, none, none, none, none, none, none, none, none, none, none, none, none, none, none, none, none, none, none, none, none, none, none, none, none, none]) : SatB (B_law δ) (fun o => o = .rt (.im (.bool true))) fun _ => False := by
  rw [l_eq]
  refine sb_sq (sb_set (sb_callC (rs := [R.drw, .im (.int 5)]) (by rw [hδ]; rfl) rfl (sb_of ⟨law_machine_ok⟩ fun r hr => ?_)))
  obtain ⟨M, hM, er⟩ := hr
  refine ⟨.im M.enc, by rw [er]; rfl, _, rfl, ?_⟩
  rw [hδ]
  refine sb_sqo (δ' := l0 M none none) (set_ok (many_ok rfl) rfl) (sb_sq (sb_of (l3_ok hM rfl) fun o ho => ?_))
  obtain ⟨δ2, e1, M', y4, y5, hM', e2⟩ := ho
  exact ⟨δ2, e1, rest_ok hM' e2⟩
theorem tF {δ : DEnv} (e : (none :: some .drw :: List.replicate (27 - 2) none : DEnv) = δ) (main : SatB (B_law δ) (fun o => o = .rt (.im (.bool true))) fun _ => False) : SatB (lawF 27 B_law) (fun r => r = .im (.bool true)) fun _ => False := by
  unfold lawF
  rw [e]
  refine ⟨Tr.sat_bind.mpr (Tr.sat_of main.h fun o ho => ?_)⟩
  rw [ho]
  exact rfl
theorem law_trueB : SatB (lawF 27 B_law) (fun r => r = .im (.bool true)) fun _ => False := tF rfl (main1 rfl)
theorem law_true : (lawF 27 B_law).sat (fun r => r = .im (.bool true)) fun _ => False := law_trueB.h
end
end K36
set_option Elab.async false
set_option linter.all false
set_option maxRecDepth 100000
set_option maxHeartbeats 4000000
namespace K36
open PySem PySem.Spec L2 DW FW
structure TT0 (P : Program) (K : PySem.W.Frag) (mg : Str → Option Value) : Prop where
  abs : mg "abs" = none
  all : mg "all" = none
  any : mg "any" = none
  enumerate : mg "enumerate" = none
  int : mg "int" = none
  len : mg "len" = none
  list : mg "list" = none
  range : mg "range" = none
  set : mg "set" = none
  sorted : mg "sorted" = none
  tuple : mg "tuple" = none
theorem sc_pair_after : FnScope n_pair_after ["machine", "pair", "place"] (defScope s_pair_after) := ⟨rfl, rfl, rfl, by decide +kernel, rfl, by decide +kernel, by decide +kernel⟩
structure C_pair_after (P : Program) (w : World) (K : PySem.W.Frag) (mg : Str → Option Value) (base : Heap) : Prop where
  none : True
set_option maxHeartbeats 3200000 in
theorem WC_pair_after {P : Program} {w : World} {K : PySem.W.Frag} {mg : Str → Option Value} {base : Heap} (T : TT0 P K mg) (c : C_pair_after P w K mg base) (f : Addr) (cdv : Value) (A : Around) (outer : List Env) (s : Shared) (H : Hp) (E : XK) (G : Gd) (hr : Room 0 (A.deeper (PyProof.Rows.envOfC "pair_after" (defScope s_pair_after) s.heap.objs.size f cdv))) :
    Ss_ (cxOf CX0 P w K mg base n_pair_after "pair_after" (defScope s_pair_after) f cdv A outer s H E).nox G wTrue ((defBody s_pair_after)) B_pair_after := by
  have hu1 := (room_units hr).1; have hu64 := (room_units hr).2.1; have hu65 := (room_units hr).2.2
  exact (s_cons (s_set (i := 3) (ps_set sc_pair_after.nd rfl (.inl rfl) (e_callB (pe_callB (cr_sortDt hu64) (by rfl) T.sorted (by decide +kernel) (a_cons (e_lc rfl sc_pair_after.nd (i_tup (e_var (pv 1))) (blkOk_by (own := [("state", 4)]) (by kernel_rfl)) (fun _ _ _ _ _ => (g_name (pg_name (i := 4) sc_pair_after.nd rfl (.inl rfl)))) (fun _ _ _ _ _ => (e_ix (e_ix (e_ix (e_var (pv 0)) (e_con de_int)) (e_var (pv 4))) (e_var (pv 2))))) a_nil)) callD_sortD kcg_sortD)))
 (s_one (s_ret (ps_ret (e_tup (a_fcons (e_ix (e_var (pv 3)) (e_con de_int)) (a_fcons (e_ix (e_var (pv 3)) (e_con de_int)) a_nil)))))))
theorem sc__law_rank : FnScope n__law_rank ["words"] (defScope s__law_rank) := ⟨rfl, rfl, rfl, by decide +kernel, rfl, by decide +kernel, by decide +kernel⟩
structure C__law_rank (P : Program) (w : World) (K : PySem.W.Frag) (mg : Str → Option Value) (base : Heap) : Prop where
  none : True
set_option maxHeartbeats 3200000 in
theorem WC__law_rank {P : Program} {w : World} {K : PySem.W.Frag} {mg : Str → Option Value} {base : Heap} (T : TT0 P K mg) (c : C__law_rank P w K mg base) (f : Addr) (cdv : Value) (A : Around) (outer : List Env) (s : Shared) (H : Hp) (E : XK) (G : Gd) (hr : Room 0 (A.deeper (PyProof.Rows.envOfC "_law_rank" (defScope s__law_rank) s.heap.objs.size f cdv))) :
    Ss_ (cxOf CX0 P w K mg base n__law_rank "_law_rank" (defScope s__law_rank) f cdv A outer s H E).nox G wTrue ((defBody s__law_rank)) B__law_rank := by
  have hu1 := (room_units hr).1; have hu64 := (room_units hr).2.1; have hu65 := (room_units hr).2.2
  exact (s_one (s_ret (ps_ret (e_lc rfl sc__law_rank.nd (i_listb (e_callB (pe_callB (cr_sortDt hu64) (by rfl) T.sorted (by decide +kernel) (a_cons (e_lc rfl sc__law_rank.nd (i_list (e_var (pv 0))) (blkOk_by (own := [("word", 2)]) (by kernel_rfl)) (fun _ _ _ _ _ => (g_name (pg_name (i := 2) sc__law_rank.nd rfl (.inl rfl)))) (fun _ _ _ _ _ => (e_tup (a_cons (e_callB (pe_callB call_len (by rfl) T.len boot_len (a_cons (e_var (pv 2)) a_nil)) callD_len kcg_len) (a_cons (e_var (pv 2)) a_nil))))) a_nil)) callD_sortD kcg_sortD)) (blkOk_by (own := [("size", 1), ("word", 2)]) (by kernel_rfl)) (fun _ _ _ _ _ => (g_tup (n := 2) rfl (gs_cons (g_name (pg_name (i := 1) sc__law_rank.nd rfl (.inl rfl))) (gs_cons (g_name (pg_name (i := 2) sc__law_rank.nd rfl (.inl rfl))) gs_nil)))) (fun _ _ _ _ _ => (e_var (pv 2)))))))
theorem sc__law_never : FnScope n__law_never ["machine", "pairs"] (defScope s__law_never) := ⟨rfl, rfl, rfl, by decide +kernel, rfl, by decide +kernel, by decide +kernel⟩
structure C__law_never (P : Program) (w : World) (K : PySem.W.Frag) (mg : Str → Option Value) (base : Heap) : Prop where
  none : True
set_option maxHeartbeats 3200000 in
theorem WC__law_never {P : Program} {w : World} {K : PySem.W.Frag} {mg : Str → Option Value} {base : Heap} (T : TT0 P K mg) (c : C__law_never P w K mg base) (f : Addr) (cdv : Value) (A : Around) (outer : List Env) (s : Shared) (H : Hp) (E : XK) (G : Gd) (hr : Room 0 (A.deeper (PyProof.Rows.envOfC "_law_never" (defScope s__law_never) s.heap.objs.size f cdv))) :
    Ss_ (cxOf CX0 P w K mg base n__law_never "_law_never" (defScope s__law_never) f cdv A outer s H E).nox G wTrue ((defBody s__law_never)) B__law_never := by
  have hu1 := (room_units hr).1; have hu64 := (room_units hr).2.1; have hu65 := (room_units hr).2.2
  exact (s_cons (s_set (i := 2) (ps_set sc__law_never.nd rfl (.inr rfl) (e_callB (pe_callB call_len (by rfl) T.len boot_len (a_cons (e_ix (e_var (pv 0)) (e_con de_int)) a_nil)) callD_len kcg_len)))
 (s_cons (s_if (t_w (w_or (t_eq hu64 (e_callB (pe_callB call_len (by rfl) T.len boot_len (a_cons (e_var (pv 1)) a_nil)) callD_len kcg_len) (e_con de_int)) (w_or1 (t_val (e_callB (pe_callB (cr_any rfl) (by rfl) T.any (by decide +kernel) (a_cons (e_lc rfl sc__law_never.nd (i_tup (e_var (pv 1))) (blkOk_by (own := [("p", 4), ("q", 5)]) (by kernel_rfl)) (fun _ _ _ _ _ => (g_tup (n := 2) rfl (gs_cons (g_name (pg_name (i := 4) sc__law_never.nd rfl (.inl rfl))) (gs_cons (g_name (pg_name (i := 5) sc__law_never.nd rfl (.inl rfl))) gs_nil)))) (fun _ _ _ _ _ => (e_not (e_and (e_chain op_le op_lt opd_le opd_lt kg_I kg_I (e_con de_int) (e_var (pv 4)) (e_var (pv 2))) (e_and (e_chain op_le op_lt opd_le opd_lt kg_I kg_I (e_con de_int) (e_var (pv 5)) (e_var (pv 2))) (e_one (e_ne hu64 (e_var (pv 4)) (e_var (pv 5))))))))) a_nil)) callD_any kcg_any))))) (s_one (s_ret (ps_ret (e_con de_bl)))) s_nil)
 (s_cons (s_set (i := 3) (ps_set sc__law_never.nd rfl (.inr rfl) (e_lc rfl sc__law_never.nd (i_tup (e_var (pv 1))) (blkOk_by (own := [("pair", 6)]) (by kernel_rfl)) (fun _ _ _ _ _ => (g_name (pg_name (i := 6) sc__law_never.nd rfl (.inl rfl)))) (fun _ _ _ _ _ => (e_callB (pe_callTy call_tuple_of (by rfl) T.tuple (by decide +kernel) (a_cons (e_callB (pe_callB (cr_sortT2 hu64) (by rfl) T.sorted (by decide +kernel) (a_cons (e_var (pv 6)) a_nil)) callD_sortTD kcg_sortTD) a_nil)) callD_tuple kcg_tupOf)))))
 (s_cons (s_for (ps_for PassesOwn.never rfl (i_tup (e_var (pv 1))) (g_tup (n := 2) rfl (gs_cons (g_name (pg_name (i := 4) sc__law_never.nd rfl (.inr rfl))) (gs_cons (g_name (pg_name (i := 5) sc__law_never.nd rfl (.inr rfl))) gs_nil))) (s_one (s_if (t_val (e_callB (pe_callB (cr_any rfl) (by rfl) T.any (by decide +kernel) (a_cons (e_lc rfl sc__law_never.nd (i_range1 (st := true) (by rfl) T.range (a_cons (e_callB (pe_callB call_len (by rfl) T.len boot_len (a_cons (e_ix (e_var (pv 0)) (e_con de_int)) a_nil)) callD_len kcg_len) a_nil)) (blkOk_by (own := [("k", 7)]) (by kernel_rfl)) (fun _ _ _ _ _ => (g_name (pg_name (i := 7) sc__law_never.nd rfl (.inl rfl)))) (fun _ _ _ _ _ => (e_notInL hu65 (e_callB (pe_callTy call_tuple_of (by rfl) T.tuple (by decide +kernel) (a_cons (e_callB (pe_callB (cr_sortDt hu64) (by rfl) T.sorted (by decide +kernel) (a_cons (e_lst (a_fcons (e_ix (e_ix (e_ix (e_var (pv 0)) (e_con de_int)) (e_var (pv 4))) (e_var (pv 7))) (a_fcons (e_ix (e_ix (e_ix (e_var (pv 0)) (e_con de_int)) (e_var (pv 5))) (e_var (pv 7))) a_nil))) a_nil)) callD_sortD kcg_sortD) a_nil)) callD_tuple kcg_tupOf) (e_var (pv 3))))) a_nil)) callD_any kcg_any)) (s_one (s_ret (ps_ret (e_con de_bl)))) s_nil))))
 (s_one (s_ret (ps_ret (e_con de_bl))))))))
theorem sc_merging_pairs : FnScope n_merging_pairs ["machine"] (defScope s_merging_pairs) := ⟨rfl, rfl, rfl, by decide +kernel, rfl, by decide +kernel, by decide +kernel⟩
structure C_merging_pairs (P : Program) (w : World) (K : PySem.W.Frag) (mg : Str → Option Value) (base : Heap) : Prop where
  pair_after : C8.Cal P w K mg base 1 "pair_after" (dSp K 3 (SC K F_pair_after)) []
set_option maxHeartbeats 3200000 in
theorem WC_merging_pairs {P : Program} {w : World} {K : PySem.W.Frag} {mg : Str → Option Value} {base : Heap} (T : TT0 P K mg) (c : C_merging_pairs P w K mg base) (f : Addr) (cdv : Value) (A : Around) (outer : List Env) (s : Shared) (H : Hp) (E : XK) (G : Gd) (hr : Room 1 (A.deeper (PyProof.Rows.envOfC "merging_pairs" (defScope s_merging_pairs) s.heap.objs.size f cdv))) :
    Ss_ (cxOf CX0 P w K mg base n_merging_pairs "merging_pairs" (defScope s_merging_pairs) f cdv A outer s H E).nox G wTrue ((defBody s_merging_pairs)) B_merging_pairs := by
  have hu1 := (room_units hr).1; have hu64 := (room_units hr).2.1; have hu65 := (room_units hr).2.2
  exact (s_cons (s_set (i := 1) (ps_set sc_merging_pairs.nd rfl (.inr rfl) (e_callB (pe_callB call_len (by rfl) T.len boot_len (a_cons (e_ix (e_var (pv 0)) (e_con de_int)) a_nil)) callD_len kcg_len)))
 (s_cons (s_setLc2 (vs2 := [8]) (i := 2) rfl sc_merging_pairs.nd rfl rfl (sw_true rfl rfl rfl (by decide +kernel)) (i_range1 (st := true) (by rfl) T.range (a_cons (e_var (pv 1)) a_nil)) (blkOk_by (own := [("p", 7), ("q", 8)]) (by kernel_rfl)) (fun _ _ _ _ _ => (go_name (pg_name (i := 7) sc_merging_pairs.nd rfl (.inl rfl)))) (fun _ _ _ _ _ => (i_range2 (st := true) (by rfl) T.range (a_cons (e_add (e_var (pv 7)) (e_con de_int)) (a_cons (e_var (pv 1)) a_nil)))) (fun _ _ _ _ _ => (g_name (pg_name (i := 8) sc_merging_pairs.nd rfl (.inl rfl)))) (fun _ _ _ _ _ => (e_tup (a_cons (e_var (pv 7)) (a_cons (e_var (pv 8)) a_nil)))))
 (s_cons (s_set (i := 3) (ps_set sc_merging_pairs.nd rfl (.inr rfl) e_newT))
 (s_cons (s_set (i := 4) (ps_set sc_merging_pairs.nd rfl (.inl rfl) (e_con de_neg)))
 (s_cons (s_while (ps_while PassesOwn.never (t_lt (e_var (pv 4)) (e_callB (pe_callB call_len_dT (by rfl) T.len boot_len (a_cons (e_var (pv 3)) a_nil)) callD_lenT kcg_lenT)) (s_cons (s_set (i := 4) (ps_set sc_merging_pairs.nd rfl (.inl rfl) (e_callB (pe_callB call_len_dT (by rfl) T.len boot_len (a_cons (e_var (pv 3)) a_nil)) callD_lenT kcg_lenT)))
 (s_one (s_frzD (i := 2) (s_for (ps_for PassesOwn.never rfl (i_list (e_var (pv 2))) (g_name (pg_name (i := 5) sc_merging_pairs.nd rfl (.inr rfl))) (s_cons (s_setLc (i := 6) rfl sc_merging_pairs.nd rfl rfl (sw_true rfl rfl rfl (by decide +kernel)) (i_range1 (st := true) (by rfl) T.range (a_cons (e_callB (pe_callB call_len (by rfl) T.len boot_len (a_cons (e_ix (e_var (pv 0)) (e_con de_int)) a_nil)) callD_len kcg_len) a_nil)) (blkOk_by (own := [("place", 9)]) (by kernel_rfl)) (fun _ _ _ _ _ => (g_name (pg_name (i := 9) sc_merging_pairs.nd rfl (.inl rfl)))) (fun _ _ _ _ _ => (e_c c.pair_after hr (by decide) (by rfl) (a_cons (e_var (pv 0)) (a_cons (e_var (pv 5)) (a_cons (e_var (pv 9)) a_nil))))))
 (s_one (s_if (t_val (e_callB (pe_callB (cr_any rfl) (by rfl) T.any (by decide +kernel) (a_cons (e_lc rfl sc_merging_pairs.nd (i_listb (e_var (pv 6))) (blkOk_by (own := [("p", 7), ("q", 8)]) (by kernel_rfl)) (fun _ _ _ _ _ => (g_tup (n := 2) rfl (gs_cons (g_name (pg_name (i := 7) sc_merging_pairs.nd rfl (.inl rfl))) (gs_cons (g_name (pg_name (i := 8) sc_merging_pairs.nd rfl (.inl rfl))) gs_nil)))) (fun _ _ _ _ _ => (e_or (e_eq hu64 (e_var (pv 7)) (e_var (pv 8))) (e_one (e_dinz hu1 (e_tup (a_cons (e_var (pv 7)) (a_cons (e_var (pv 8)) a_nil))) (e_var (pv 3))))))) a_nil)) callD_any kcg_any)) (s_one (s_put (i := 3) (ps_dput hu1 (pv 3) (e_var (pv 5)) (e_con de_bl) rfl))) s_nil))))))))))
 (s_one (s_ret (ps_ret (e_dc (.inr ⟨rfl, rfl⟩) hu1 rfl sc_merging_pairs.nd (i_list (e_var (pv 2))) (blkOk_by (own := [("pair", 5)]) (by kernel_rfl)) (fun _ _ _ _ _ => (g_name (pg_name (i := 5) sc_merging_pairs.nd rfl (.inl rfl)))) (fun _ _ _ _ _ => (e_var (pv 5))) (fun _ _ _ _ _ => (e_dinz hu1 (e_var (pv 5)) (e_var (pv 3)))))))))))))
theorem sc_takes_never : FnScope n_takes_never ["machine", "pairs"] (defScope s_takes_never) := ⟨rfl, rfl, rfl, by decide +kernel, rfl, by decide +kernel, by decide +kernel⟩
structure C_takes_never (P : Program) (w : World) (K : PySem.W.Frag) (mg : Str → Option Value) (base : Heap) : Prop where
  pair_after : C8.Cal P w K mg base 1 "pair_after" (dSp K 3 (SC K F_pair_after)) []
set_option maxHeartbeats 3200000 in
theorem WC_takes_never {P : Program} {w : World} {K : PySem.W.Frag} {mg : Str → Option Value} {base : Heap} (T : TT0 P K mg) (c : C_takes_never P w K mg base) (f : Addr) (cdv : Value) (A : Around) (outer : List Env) (s : Shared) (H : Hp) (E : XK) (G : Gd) (hr : Room 1 (A.deeper (PyProof.Rows.envOfC "takes_never" (defScope s_takes_never) s.heap.objs.size f cdv))) :
    Ss_ (cxOf CX0 P w K mg base n_takes_never "takes_never" (defScope s_takes_never) f cdv A outer s H E).nox G wTrue ((defBody s_takes_never)) B_takes_never := by
  have hu1 := (room_units hr).1; have hu64 := (room_units hr).2.1; have hu65 := (room_units hr).2.2
  exact (s_cons (s_set (i := 2) (ps_set sc_takes_never.nd rfl (.inr rfl) (e_callB (pe_callB call_len (by rfl) T.len boot_len (a_cons (e_ix (e_var (pv 0)) (e_con de_int)) a_nil)) callD_len kcg_len)))
 (s_cons (s_if (t_w (w_or (t_not (t_tru (e_var (pv 1)))) (w_or1 (t_not (t_val (e_callB (pe_callB (cr_all rfl) (by rfl) T.all (by decide +kernel) (a_cons (e_lc rfl sc_takes_never.nd (i_tup (e_var (pv 1))) (blkOk_by (own := [("p", 6), ("q", 7)]) (by kernel_rfl)) (fun _ _ _ _ _ => (g_tup (n := 2) rfl (gs_cons (g_name (pg_name (i := 6) sc_takes_never.nd rfl (.inl rfl))) (gs_cons (g_name (pg_name (i := 7) sc_takes_never.nd rfl (.inl rfl))) gs_nil)))) (fun _ _ _ _ _ => (e_and (e_chain op_le op_lt opd_le opd_lt kg_I kg_I (e_con de_int) (e_var (pv 6)) (e_var (pv 2))) (e_and (e_chain op_le op_lt opd_le opd_lt kg_I kg_I (e_con de_int) (e_var (pv 7)) (e_var (pv 2))) (e_one (e_ne hu64 (e_var (pv 6)) (e_var (pv 7)))))))) a_nil)) callD_all kcg_all)))))) (s_one (s_ret (ps_ret (e_con de_bl)))) s_nil)
 (s_cons (s_set (i := 3) (ps_set sc_takes_never.nd rfl (.inr rfl) (e_dc (.inr ⟨rfl, rfl⟩) hu1 rfl sc_takes_never.nd (i_tup (e_var (pv 1))) (blkOk_by (own := [("pair", 4)]) (by kernel_rfl)) (fun _ _ _ _ _ => (g_name (pg_name (i := 4) sc_takes_never.nd rfl (.inl rfl)))) (fun _ _ _ _ _ => (e_callB (pe_callTy call_tuple_of (by rfl) T.tuple (by decide +kernel) (a_cons (e_callB (pe_callB (cr_sortT2 hu64) (by rfl) T.sorted (by decide +kernel) (a_cons (e_var (pv 4)) a_nil)) callD_sortTD kcg_sortTD) a_nil)) callD_tuple kcg_tupOf)) (fun _ _ _ _ _ => (e_con de_bl)))))
 (s_one (s_ret (ps_ret (e_callB (pe_callB (cr_all rfl) (by rfl) T.all (by decide +kernel) (a_cons (e_lc2 (vs2 := [5]) rfl sc_takes_never.nd (i_tup (e_var (pv 1))) (blkOk_by (own := [("pair", 4), ("place", 5)]) (by kernel_rfl)) (fun _ _ _ _ _ => (go_name (pg_name (i := 4) sc_takes_never.nd rfl (.inl rfl)))) (fun _ _ _ _ _ => (i_range1 (st := true) (by rfl) T.range (a_cons (e_callB (pe_callB call_len (by rfl) T.len boot_len (a_cons (e_ix (e_var (pv 0)) (e_con de_int)) a_nil)) callD_len kcg_len) a_nil))) (fun _ _ _ _ _ => (g_name (pg_name (i := 5) sc_takes_never.nd rfl (.inl rfl)))) (fun _ _ _ _ _ => (e_dinz hu1 (e_c c.pair_after hr (by decide) (by rfl) (a_cons (e_var (pv 0)) (a_cons (e_var (pv 4)) (a_cons (e_var (pv 5)) a_nil)))) (e_var (pv 3))))) a_nil)) callD_all kcg_all)))))))
theorem sc__law_pick : FnScope n__law_pick ["d", "menu"] (defScope s__law_pick) := ⟨rfl, rfl, rfl, by decide +kernel, rfl, by decide +kernel, by decide +kernel⟩
structure C__law_pick (P : Program) (w : World) (K : PySem.W.Frag) (mg : Str → Option Value) (base : Heap) : Prop where
  _law_take : C8.Cal P w K mg base 1 "_law_take" (dSp K 2 (SC K F_take)) []
set_option maxHeartbeats 3200000 in
theorem WC__law_pick {P : Program} {w : World} {K : PySem.W.Frag} {mg : Str → Option Value} {base : Heap} (T : TT0 P K mg) (c : C__law_pick P w K mg base) (f : Addr) (cdv : Value) (A : Around) (outer : List Env) (s : Shared) (H : Hp) (E : XK) (G : Gd) (hr : Room 1 (A.deeper (PyProof.Rows.envOfC "_law_pick" (defScope s__law_pick) s.heap.objs.size f cdv))) :
    Ss_ (cxOf CX0 P w K mg base n__law_pick "_law_pick" (defScope s__law_pick) f cdv A outer s H E).nox G wTrue ((defBody s__law_pick)) B__law_pick := by
  have hu1 := (room_units hr).1; have hu64 := (room_units hr).2.1; have hu65 := (room_units hr).2.2
  exact (s_one (s_ret (ps_ret (e_ix (e_var (pv 1)) (e_c c._law_take hr (by decide) (by rfl) (a_cons (e_var (pv 0)) (a_cons (e_callB (pe_callB call_len (by rfl) T.len boot_len (a_cons (e_var (pv 1)) a_nil)) callD_len kcg_len) a_nil)))))))
theorem sc_reset_word : FnScope n_reset_word ["machine"] (defScope s_reset_word) := ⟨rfl, rfl, rfl, by decide +kernel, rfl, by decide +kernel, by decide +kernel⟩
structure C_reset_word (P : Program) (w : World) (K : PySem.W.Frag) (mg : Str → Option Value) (base : Heap) : Prop where
  merging_pairs : C8.Cal P w K mg base 2 "merging_pairs" (dSp K 1 (SC K F_merging_pairs)) []
set_option maxHeartbeats 3200000 in
theorem WC_reset_word {P : Program} {w : World} {K : PySem.W.Frag} {mg : Str → Option Value} {base : Heap} (T : TT0 P K mg) (c : C_reset_word P w K mg base) (f : Addr) (cdv : Value) (A : Around) (outer : List Env) (s : Shared) (H : Hp) (E : XK) (G : Gd) (hr : Room 2 (A.deeper (PyProof.Rows.envOfC "reset_word" (defScope s_reset_word) s.heap.objs.size f cdv))) :
    Ss_ (cxOf CX0 P w K mg base n_reset_word "reset_word" (defScope s_reset_word) f cdv A outer s H E).nox G wTrue ((defBody s_reset_word)) B_reset_word := by
  have hu1 := (room_units hr).1; have hu64 := (room_units hr).2.1; have hu65 := (room_units hr).2.2
  exact (s_cons (s_set (i := 1) (ps_set sc_reset_word.nd rfl (.inl rfl) (e_callB (pe_callB (cr_sortDt hu64) (by rfl) T.sorted (by decide +kernel) (a_cons (e_lcIf rfl sc_reset_word.nd (i_itemsT (e_frz (e_c c.merging_pairs hr (by decide) (by rfl) (a_cons (e_var (pv 0)) a_nil)))) (blkOk_by (own := [("pair", 9), ("is_merging", 10)]) (by kernel_rfl)) (fun _ _ _ _ _ => (g_tup (n := 2) rfl (gs_cons (g_name (pg_name (i := 9) sc_reset_word.nd rfl (.inl rfl))) (gs_cons (g_name (pg_name (i := 10) sc_reset_word.nd rfl (.inl rfl))) gs_nil)))) (fun _ _ _ _ _ => (t_not (t_tru (e_var (pv 10))))) (fun _ _ _ _ _ => (e_var (pv 9)))) a_nil)) callD_sortD kcg_sortD)))
 (s_cons (s_if (t_tru (e_var (pv 1))) (s_one (s_ret (ps_ret (e_tupStar (e_con de_str) (e_ix (e_var (pv 1)) (e_con de_int)))))) s_nil)
 (s_cons (s_set (i := 2) (ps_set sc_reset_word.nd rfl (.inl rfl) (e_tupR1 rfl (by rfl) T.tuple (by rfl) T.range (e_callB (pe_callB call_len (by rfl) T.len boot_len (a_cons (e_ix (e_var (pv 0)) (e_con de_int)) a_nil)) callD_len kcg_len))))
 (s_cons (s_set (i := 3) (ps_set sc_reset_word.nd rfl (.inl rfl) (e_dispT hu1 (e_var (pv 2)) (e_con de_str))))
 (s_cons (s_set (i := 4) (ps_set sc_reset_word.nd rfl (.inl rfl) (e_lst (a_cons (e_var (pv 2)) a_nil))))
 (s_cons (s_while (ps_while PassesOwn.never (t_tru (e_var (pv 4))) (s_cons (s_pop0 (j := 4) (ps_asg (pe_bm PySem.F.plainAttrs_list PySem.F.slot_list_pop PySem.F.type_list_pop mt_popAt (pv 4) (pa_cons pe_int pa_nil)) (g_name (pg_name (i := 5) sc_reset_word.nd rfl (.inl rfl)))))
 (s_cons (s_if (t_eq hu64 (e_callB (pe_callB call_len (by rfl) T.len boot_len (a_cons (e_var (pv 5)) a_nil)) callD_len kcg_len) (e_con de_int)) (s_one (s_ret (ps_ret (e_tup (a_cons (e_con de_str) (a_cons (e_dgz hu1 (e_var (pv 3)) (e_var (pv 5))) a_nil)))))) s_nil)
 (s_one (s_for (ps_for PassesOwn.never rfl (i_enumG (by rfl) T.enumerate (a_cons (e_ix (e_var (pv 0)) (e_con de_int)) a_nil)) (g_tup (n := 2) rfl (gs_cons (g_name (pg_name (i := 6) sc_reset_word.nd rfl (.inr rfl))) (gs_cons (g_name (pg_name (i := 7) sc_reset_word.nd rfl (.inl rfl))) gs_nil))) (s_cons (s_set (i := 8) (ps_set sc_reset_word.nd rfl (.inl rfl) (e_callB (pe_callTy call_tuple_of (by rfl) T.tuple (by decide +kernel) (a_cons (e_callB (pe_callB (call_sortedDI rfl) (by rfl) T.sorted (by decide +kernel) (a_cons (e_dc (.inl ⟨rfl, rfl⟩) hu1 rfl sc_reset_word.nd (i_tup (e_var (pv 5))) (blkOk_by (own := [("state", 11)]) (by kernel_rfl)) (fun _ _ _ _ _ => (g_name (pg_name (i := 11) sc_reset_word.nd rfl (.inl rfl)))) (fun _ _ _ _ _ => (e_ix (e_ix (e_ix (e_var (pv 0)) (e_con de_int)) (e_var (pv 11))) (e_var (pv 6)))) (fun _ _ _ _ _ => (e_con de_bl))) a_nil)) callD_sortDI kcg_sortDI) a_nil)) callD_tuple kcg_tupOf)))
 (s_one (s_if (t_dnotinz hu1 (e_var (pv 8)) (e_var (pv 3))) (s_cons (s_put (i := 3) (ps_dput hu1 (pv 3) (e_var (pv 8)) (e_add (e_dgz hu1 (e_var (pv 3)) (e_var (pv 5))) (e_var (pv 7))) rfl))
 (s_one (s_append (i := 4) (ps_expr (pe_bm PySem.F.plainAttrs_list PySem.F.slot_list_append PySem.F.type_list_append mt_append (pv 4) (pa_cons (e_var (pv 8)) pa_nil)))))) s_nil))))))))))
 (s_one (s_ret (ps_ret (e_tup (a_cons (e_con de_str) (a_cons (e_con de_int) (a_cons (e_con de_int) a_nil)))))))))))))
theorem sc__law_machine : FnScope n__law_machine ["d", "most"] (defScope s__law_machine) := ⟨rfl, rfl, rfl, by decide +kernel, rfl, by decide +kernel, by decide +kernel⟩
structure C__law_machine (P : Program) (w : World) (K : PySem.W.Frag) (mg : Str → Option Value) (base : Heap) : Prop where
  _law_take : C8.Cal P w K mg base 1 "_law_take" (dSp K 2 (SC K F_take)) []
  _law_pick : C8.Cal P w K mg base 2 "_law_pick" (dSp K 2 (SC K F__law_pick)) []
set_option maxHeartbeats 3200000 in
theorem WC__law_machine {P : Program} {w : World} {K : PySem.W.Frag} {mg : Str → Option Value} {base : Heap} (T : TT0 P K mg) (c : C__law_machine P w K mg base) (f : Addr) (cdv : Value) (A : Around) (outer : List Env) (s : Shared) (H : Hp) (E : XK) (G : Gd) (hr : Room 2 (A.deeper (PyProof.Rows.envOfC "_law_machine" (defScope s__law_machine) s.heap.objs.size f cdv))) :
    Ss_ (cxOf CX0 P w K mg base n__law_machine "_law_machine" (defScope s__law_machine) f cdv A outer s H E).nox G wTrue ((defBody s__law_machine)) B__law_machine := by
  have hu1 := (room_units hr).1; have hu64 := (room_units hr).2.1; have hu65 := (room_units hr).2.2
  exact (s_cons (s_set (i := 2) (ps_set sc__law_machine.nd rfl (.inr rfl) (e_c c._law_pick hr (by decide) (by rfl) (a_cons (e_var (pv 0)) (a_fcons (e_lst (a_cons (e_con de_str) (a_cons (e_con de_str) (a_cons (e_con de_str) (a_cons (e_con de_str) a_nil))))) a_nil)))))
 (s_cons (s_set (i := 3) (ps_set sc__law_machine.nd rfl (.inr rfl) (e_add (e_con de_int) (e_c c._law_take hr (by decide) (by rfl) (a_cons (e_var (pv 0)) (a_cons (e_var (pv 1)) a_nil))))))
 (s_cons (s_set (i := 4) (ps_set sc__law_machine.nd rfl (.inl rfl) (e_callB (pe_callTy call_tuple_of (by rfl) T.tuple (by decide +kernel) (a_cons (e_lc rfl sc__law_machine.nd (i_range1 (st := true) (by rfl) T.range (a_cons (e_var (pv 3)) a_nil)) (blkOk_by (own := [("state", 5)]) (by kernel_rfl)) (fun _ _ _ _ _ => (g_name (pg_name (i := 5) sc__law_machine.nd rfl (.inl rfl)))) (fun _ _ _ _ _ => (e_callB (pe_callTy call_tuple_of (by rfl) T.tuple (by decide +kernel) (a_cons (e_lc rfl sc__law_machine.nd (i_str (e_var (pv 2))) (blkOk_by (own := [("sign", 6)]) (by kernel_rfl)) (fun _ _ _ _ _ => (g_name (pg_name (i := 6) sc__law_machine.nd rfl (.inl rfl)))) (fun _ _ _ _ _ => (e_c c._law_take hr (by decide) (by rfl) (a_cons (e_var (pv 0)) (a_cons (e_var (pv 3)) a_nil))))) a_nil)) callD_tuple kcg_tupOf))) a_nil)) callD_tuple kcg_tupOf)))
 (s_one (s_ret (ps_ret (e_tup (a_cons (e_var (pv 2)) (a_cons (e_var (pv 4)) (a_cons (e_callB (pe_callTy call_tuple_of (by rfl) T.tuple (by decide +kernel) (a_cons (e_lcIf rfl sc__law_machine.nd (i_range1 (st := true) (by rfl) T.range (a_cons (e_var (pv 3)) a_nil)) (blkOk_by (own := [("state", 5)]) (by kernel_rfl)) (fun _ _ _ _ _ => (g_name (pg_name (i := 5) sc__law_machine.nd rfl (.inl rfl)))) (fun _ _ _ _ _ => (t_eq hu64 (e_c c._law_take hr (by decide) (by rfl) (a_cons (e_var (pv 0)) (a_cons (e_con de_int) a_nil))) (e_con de_int))) (fun _ _ _ _ _ => (e_var (pv 5)))) a_nil)) callD_tuple kcg_tupOf) a_nil))))))))))
theorem sc_law : FnScope n_law ["script"] (defScope s_law) := ⟨rfl, rfl, rfl, by decide +kernel, rfl, by decide +kernel, by decide +kernel⟩
structure C_law (P : Program) (w : World) (K : PySem.W.Frag) (mg : Str → Option Value) (base : Heap) : Prop where
  reset_word : C8.Cal P w K mg base 3 "reset_word" (dSp K 1 (SC K F_reset_word)) []
  takes_never : C8.Cal P w K mg base 2 "takes_never" (dSp K 2 (SC K F_takes_never)) []
  _law_take : C8.Cal P w K mg base 1 "_law_take" (dSp K 2 (SC K F_take)) []
  _law_pick : C8.Cal P w K mg base 2 "_law_pick" (dSp K 2 (SC K F__law_pick)) []
  _law_rank : C8.Cal P w K mg base 1 "_law_rank" (dSp K 1 (SC K F__law_rank)) []
  _law_machine : C8.Cal P w K mg base 3 "_law_machine" (dSp K 2 (SC K F__law_machine)) []
  _law_never : C8.Cal P w K mg base 1 "_law_never" (dSp K 2 (SC K F__law_never)) []
set_option maxHeartbeats 3200000 in
theorem WX_law {P : Program} {w : World} {K : PySem.W.Frag} {mg : Str → Option Value} {base : Heap} (T : TT0 P K mg) (c : C_law P w K mg base) (f : Addr) (cdv : Value) (A : Around) (outer : List Env) (s : Shared) (H : Hp) (E : XK) (G : Gd) (hr : Room 3 (A.deeper (PyProof.Rows.envOfC "law" (defScope s_law) s.heap.objs.size f cdv))) :
    Ss_ (cxOf (L2.CX P w) P w K mg base n_law "law" (defScope s_law) f cdv A outer s H E) G (fun cls d _ H => E cls d H) ((defBody s_law).drop 1) B_law := by
  have hu1 := (room_units hr).1; have hu64 := (room_units hr).2.1; have hu65 := (room_units hr).2.2
  have tk : Takes (cxOf (L2.CX P w) P w K mg base n_law "law" (defScope s_law) f cdv A outer s H E) (fun cls d _ H => E cls d H) := takes_of rfl rfl rfl rfl; have pown : PassesOwn (model P w) (cxOf (L2.CX P w) P w K mg base n_law "law" (defScope s_law) f cdv A outer s H E).A (cxOf (L2.CX P w) P w K mg base n_law "law" (defScope s_law) f cdv A outer s H E).env (cxOf (L2.CX P w) P w K mg base n_law "law" (defScope s_law) f cdv A outer s H E).xe := L2.passes_of rfl
  exact (s_cons (s_set (i := 2) (ps_set sc_law.nd rfl (.inr rfl) (e_c c._law_machine hr (by decide) (by rfl) (a_cons (e_var (pv 1)) (a_cons (e_con de_int) a_nil)))))
 (s_cons (s_set (i := 3) (ps_set sc_law.nd rfl (.inl rfl) (e_callB (pe_callB call_len (by rfl) T.len boot_len (a_cons (e_ix (e_var (pv 2)) (e_con de_int)) a_nil)) callD_len kcg_len)))
 (s_cons (s_if (t_eq hu64 (e_c c._law_take hr (by decide) (by rfl) (a_cons (e_var (pv 1)) (a_cons (e_con de_int) a_nil))) (e_con de_int)) (s_cons (s_set (i := 4) (ps_set sc_law.nd rfl (.inl rfl) (e_lstR1 rfl (by rfl) T.list (by rfl) T.range (e_var (pv 3)))))
 (s_cons (s_set (i := 5) (ps_set sc_law.nd rfl (.inr rfl) (e_lst a_nil)))
 (s_cons (s_while (ps_while pown (t_gt (e_callB (pe_callB call_len (by rfl) T.len boot_len (a_cons (e_var (pv 4)) a_nil)) callD_len kcg_len) (e_con de_int)) (s_one (s_appPop (i := 5) (j := 4) (ps_expr (pe_bm PySem.F.plainAttrs_list PySem.F.slot_list_append PySem.F.type_list_append mt_append (pv 5) (pa_cons (pe_bm PySem.F.plainAttrs_list PySem.F.slot_list_pop PySem.F.type_list_pop mt_popAt (pv 4) (pa_cons (e_c c._law_take hr (by decide) (by rfl) (a_cons (e_var (pv 1)) (a_cons (e_callB (pe_callB call_len (by rfl) T.len boot_len (a_cons (e_var (pv 4)) a_nil)) callD_len kcg_len) a_nil))) pa_nil)) pa_nil)))))))
 (s_one (s_set (i := 2) (ps_set sc_law.nd rfl (.inr rfl) (e_tup (a_cons (e_ix (e_var (pv 2)) (e_con de_int)) (a_cons (e_callB (pe_callTy call_tuple_of (by rfl) T.tuple (by decide +kernel) (a_cons (e_lc rfl sc_law.nd (i_range1 (st := true) (by rfl) T.range (a_cons (e_var (pv 3)) a_nil)) (blkOk_by (own := [("state", 24)]) (by kernel_rfl)) (fun _ _ _ _ _ => (g_name (pg_name (i := 24) sc_law.nd rfl (.inl rfl)))) (fun _ _ _ _ _ => (e_add (e_tup (a_fcons (e_ix (e_var (pv 5)) (e_var (pv 24))) a_nil)) (e_slice (e_ix (e_ix (e_var (pv 2)) (e_con de_int)) (e_var (pv 24))) (o_some (e_con de_int)) o_none)))) a_nil)) callD_tuple kcg_tupOf) (a_fcons (e_ix (e_var (pv 2)) (e_con de_int)) a_nil)))))))))) s_nil)
 (s_cons (s_set (i := 6) (ps_set sc_law.nd rfl (.inr rfl) (e_dispT hu1 (e_tupR1 rfl (by rfl) T.tuple (by rfl) T.range (e_var (pv 3))) (e_con de_str))))
 (s_cons (s_set (i := 7) (ps_set sc_law.nd rfl (.inl rfl) (e_lst (a_cons (e_tupR1 rfl (by rfl) T.tuple (by rfl) T.range (e_var (pv 3))) a_nil))))
 (s_cons (s_set (i := 8) (ps_set sc_law.nd rfl (.inl rfl) (e_con de_int)))
 (s_cons (s_while (ps_while pown (t_lt (e_var (pv 8)) (e_callB (pe_callB call_len (by rfl) T.len boot_len (a_cons (e_var (pv 7)) a_nil)) callD_len kcg_len)) (s_cons (s_for (ps_for pown rfl (i_range1 (st := true) (by rfl) T.range (a_cons (e_callB (pe_callB call_len (by rfl) T.len boot_len (a_cons (e_ix (e_var (pv 2)) (e_con de_int)) a_nil)) callD_len kcg_len) a_nil)) (g_name (pg_name (i := 9) sc_law.nd rfl (.inr rfl))) (s_cons (s_set (i := 10) (ps_set sc_law.nd rfl (.inl rfl) (e_callB (pe_callTy call_tuple_of (by rfl) T.tuple (by decide +kernel) (a_cons (e_sortSetI rfl (by rfl) T.sorted (by rfl) T.set (e_lc rfl sc_law.nd (i_tup (e_ix (e_var (pv 7)) (e_var (pv 8)))) (blkOk_by (own := [("state", 24)]) (by kernel_rfl)) (fun _ _ _ _ _ => (g_name (pg_name (i := 24) sc_law.nd rfl (.inl rfl)))) (fun _ _ _ _ _ => (e_ix (e_ix (e_ix (e_var (pv 2)) (e_con de_int)) (e_var (pv 24))) (e_var (pv 9)))))) a_nil)) callD_tuple kcg_tupOf)))
 (s_one (s_if (t_dnotinz hu1 (e_var (pv 10)) (e_var (pv 6))) (s_cons (s_put (i := 6) (ps_dput hu1 (pv 6) (e_var (pv 10)) (e_add (e_dgz hu1 (e_var (pv 6)) (e_ix (e_var (pv 7)) (e_var (pv 8)))) (e_ix (e_ix (e_var (pv 2)) (e_con de_int)) (e_var (pv 9)))) rfl))
 (s_one (s_append (i := 7) (ps_expr (pe_bm PySem.F.plainAttrs_list PySem.F.slot_list_append PySem.F.type_list_append mt_append (pv 7) (pa_cons (e_var (pv 10)) pa_nil)))))) s_nil)))))
 (s_one (s_set (i := 8) (ps_set sc_law.nd rfl (.inl rfl) (e_add (e_var (pv 8)) (e_con de_int))))))))
 (s_cons (s_set (i := 11) (ps_set sc_law.nd rfl (.inl rfl) (e_c c._law_rank hr (by decide) (by rfl) (a_fcons (e_lcIf rfl sc_law.nd (i_listb (e_var (pv 7))) (blkOk_by (own := [("states", 23)]) (by kernel_rfl)) (fun _ _ _ _ _ => (g_name (pg_name (i := 23) sc_law.nd rfl (.inl rfl)))) (fun _ _ _ _ _ => (t_eq hu64 (e_callB (pe_callB call_len (by rfl) T.len boot_len (a_cons (e_var (pv 23)) a_nil)) callD_len kcg_len) (e_con de_int))) (fun _ _ _ _ _ => (e_dgz hu1 (e_var (pv 6)) (e_var (pv 23))))) a_nil))))
 (s_cons (s_set (i := 12) (ps_set sc_law.nd rfl (.inl rfl) (e_c c.reset_word hr (by decide) (by rfl) (a_cons (e_var (pv 2)) a_nil))))
 (s_cons (s_set (i := 13) (ps_set sc_law.nd rfl (.inl rfl) (e_lst a_nil)))
 (s_cons (s_for (ps_for pown rfl (i_range1 (st := true) (by rfl) T.range (a_cons (e_var (pv 3)) a_nil)) (g_name (pg_name (i := 14) sc_law.nd rfl (.inr rfl))) (s_one (s_extend (i := 13) (ps_expr (pe_bm PySem.F.plainAttrs_list PySem.F.slot_list_extend PySem.F.type_list_extend mt_extend (pv 13) (pa_cons (e_lc rfl sc_law.nd (i_range2 (st := true) (by rfl) T.range (a_cons (e_add (e_var (pv 14)) (e_con de_int)) (a_cons (e_var (pv 3)) a_nil))) (blkOk_by (own := [("q", 17)]) (by kernel_rfl)) (fun _ _ _ _ _ => (g_name (pg_name (i := 17) sc_law.nd rfl (.inl rfl)))) (fun _ _ _ _ _ => (e_tup (a_cons (e_var (pv 14)) (a_cons (e_var (pv 17)) a_nil))))) pa_nil)))))))
 (s_cons (s_set (i := 15) (ps_set sc_law.nd rfl (.inr rfl) (e_lst a_nil)))
 (s_cons (s_for (ps_for pown rfl (i_range1 (st := true) (by rfl) T.range (a_cons (e_add (e_callB (pe_callB call_len (by rfl) T.len boot_len (a_cons (e_var (pv 13)) a_nil)) callD_len kcg_len) (e_con de_int)) a_nil)) (g_name (pg_name (i := 16) sc_law.nd rfl (.inl rfl))) (s_one (s_frzD (i := 13) (s_for (ps_for pown rfl (i_list (e_var (pv 13))) (g_tup (n := 2) rfl (gs_cons (g_name (pg_name (i := 14) sc_law.nd rfl (.inr rfl))) (gs_cons (g_name (pg_name (i := 17) sc_law.nd rfl (.inr rfl))) gs_nil))) (s_cons (s_setLc (i := 10) rfl sc_law.nd rfl rfl (sw_true rfl rfl rfl (by decide +kernel)) (i_range1 (st := true) (by rfl) T.range (a_cons (e_callB (pe_callB call_len (by rfl) T.len boot_len (a_cons (e_ix (e_var (pv 2)) (e_con de_int)) a_nil)) callD_len kcg_len) a_nil)) (blkOk_by (own := [("k", 9)]) (by kernel_rfl)) (fun _ _ _ _ _ => (g_name (pg_name (i := 9) sc_law.nd rfl (.inl rfl)))) (fun _ _ _ _ _ => (e_callB (pe_callTy call_tuple_of (by rfl) T.tuple (by decide +kernel) (a_cons (e_callB (pe_callB (cr_sortDt hu64) (by rfl) T.sorted (by decide +kernel) (a_cons (e_lst (a_fcons (e_ix (e_ix (e_ix (e_var (pv 2)) (e_con de_int)) (e_var (pv 14))) (e_var (pv 9))) (a_fcons (e_ix (e_ix (e_ix (e_var (pv 2)) (e_con de_int)) (e_var (pv 17))) (e_var (pv 9))) a_nil))) a_nil)) callD_sortD kcg_sortD) a_nil)) callD_tuple kcg_tupOf)))
 (s_one (s_if (t_w (w_and (t_val (e_callB (pe_callB (cr_any rfl) (by rfl) T.any (by decide +kernel) (a_cons (e_lc rfl sc_law.nd (i_listb (e_var (pv 10))) (blkOk_by (own := [("a", 25), ("b", 26)]) (by kernel_rfl)) (fun _ _ _ _ _ => (g_tup (n := 2) rfl (gs_cons (g_name (pg_name (i := 25) sc_law.nd rfl (.inl rfl))) (gs_cons (g_name (pg_name (i := 26) sc_law.nd rfl (.inl rfl))) gs_nil)))) (fun _ _ _ _ _ => (e_or (e_eq hu64 (e_var (pv 25)) (e_var (pv 26))) (e_one (e_inL hu65 (e_tup (a_cons (e_var (pv 25)) (a_cons (e_var (pv 26)) a_nil))) (e_var (pv 15))))))) a_nil)) callD_any kcg_any)) (w_and1 (t_notInL hu65 (e_tup (a_cons (e_var (pv 14)) (a_cons (e_var (pv 17)) a_nil))) (e_var (pv 15)))))) (s_one (s_append (i := 15) (ps_expr (pe_bm PySem.F.plainAttrs_list PySem.F.slot_list_append PySem.F.type_list_append mt_append (pv 15) (pa_cons (e_tup (a_cons (e_var (pv 14)) (a_cons (e_var (pv 17)) a_nil))) pa_nil))))) s_nil)))))))))
 (s_cons (s_setLcIf (i := 18) rfl sc_law.nd rfl rfl (sw_true rfl rfl rfl (by decide +kernel)) (i_list (e_var (pv 13))) (blkOk_by (own := [("pair", 22)]) (by kernel_rfl)) (fun _ _ _ _ _ => (g_name (pg_name (i := 22) sc_law.nd rfl (.inl rfl)))) (fun _ _ _ _ _ => (t_notInL hu65 (e_var (pv 22)) (e_var (pv 15)))) (fun _ _ _ _ _ => (e_var (pv 22))))
 (s_cons (s_if (t_w (w_or (t_ne hu64 (e_var (pv 12)) (e_if (t_gt (e_callB (pe_callB call_len (by rfl) T.len boot_len (a_cons (e_var (pv 11)) a_nil)) callD_len kcg_len) (e_con de_int)) (e_tup (a_cons (e_con de_str) (a_fcons (e_ix (e_var (pv 11)) (e_con de_int)) a_nil))) (e_add (e_tup (a_cons (e_con de_str) a_nil)) (e_ix (e_var (pv 18)) (e_con de_int))))) (w_or1 (t_ne hu64 (e_gt (e_callB (pe_callB call_len (by rfl) T.len boot_len (a_cons (e_var (pv 11)) a_nil)) callD_len kcg_len) (e_con de_int)) (e_eq hu64 (e_callB (pe_callB call_len (by rfl) T.len boot_len (a_cons (e_var (pv 18)) a_nil)) callD_len kcg_len) (e_con de_int)))))) (s_one (s_ret (ps_ret (e_con de_bl)))) s_nil)
 (s_cons (s_set (i := 19) (ps_set sc_law.nd rfl (.inl rfl) (e_callB (pe_callTy call_tuple_of (by rfl) T.tuple (by decide +kernel) (a_cons (e_var (pv 18)) a_nil)) callD_tuple kcg_tupOf)))
 (s_cons (s_for (ps_for pown rfl (i_range1 (st := true) (by rfl) T.range (a_cons (e_con de_int) a_nil)) (g_name (pg_name (i := 16) sc_law.nd rfl (.inl rfl))) (s_cons (s_set (i := 20) (ps_set sc_law.nd rfl (.inl rfl) (e_c c._law_never hr (by decide) (by rfl) (a_cons (e_var (pv 2)) (a_cons (e_var (pv 19)) a_nil)))))
 (s_cons (s_if (t_w (w_or (t_ne hu64 (e_c c.takes_never hr (by decide) (by rfl) (a_cons (e_var (pv 2)) (a_cons (e_var (pv 19)) a_nil))) (e_var (pv 20))) (w_or1 (t_w (w_and (t_val (e_var (pv 20))) (w_and1 (t_gt (e_callB (pe_callB call_len (by rfl) T.len boot_len (a_cons (e_var (pv 11)) a_nil)) callD_len kcg_len) (e_con de_int)))))))) (s_one (s_ret (ps_ret (e_con de_bl)))) s_nil)
 (s_cons (s_set (i := 8) (ps_set sc_law.nd rfl (.inl rfl) (e_c c._law_take hr (by decide) (by rfl) (a_cons (e_var (pv 1)) (a_cons (e_add (e_callB (pe_callB call_len (by rfl) T.len boot_len (a_cons (e_var (pv 19)) a_nil)) callD_len kcg_len) (e_con de_int)) a_nil)))))
 (s_cons (s_set (i := 21) (ps_set sc_law.nd rfl (.inl rfl) (e_tup (a_cons (e_c c._law_take hr (by decide) (by rfl) (a_cons (e_var (pv 1)) (a_cons (e_add (e_var (pv 3)) (e_con de_int)) a_nil))) (a_cons (e_c c._law_take hr (by decide) (by rfl) (a_cons (e_var (pv 1)) (a_cons (e_add (e_var (pv 3)) (e_con de_int)) a_nil))) a_nil)))))
 (s_one (s_set (i := 19) (ps_set sc_law.nd rfl (.inl rfl) (e_c c._law_pick hr (by decide) (by rfl) (a_cons (e_var (pv 1)) (a_fcons (e_lst (a_cons (e_add (e_slice (e_var (pv 19)) o_none (o_some (e_var (pv 8)))) (e_slice (e_var (pv 19)) (o_some (e_add (e_var (pv 8)) (e_con de_int))) o_none)) (a_cons (e_add (e_add (e_slice (e_var (pv 19)) o_none (o_some (e_var (pv 8)))) (e_tup (a_cons (e_var (pv 21)) a_nil))) (e_slice (e_var (pv 19)) (o_some (e_var (pv 8))) o_none)) (a_cons (e_callB (pe_callTy call_tuple_of (by rfl) T.tuple (by decide +kernel) (a_cons (e_var (pv 18)) a_nil)) callD_tuple kcg_tupOf) (a_cons (e_callB (pe_callTy call_tuple_of (by rfl) T.tuple (by decide +kernel) (a_cons (e_lc rfl sc_law.nd (i_tup (e_var (pv 19))) (blkOk_by (own := [("p", 14), ("q", 17)]) (by kernel_rfl)) (fun _ _ _ _ _ => (g_tup (n := 2) rfl (gs_cons (g_name (pg_name (i := 14) sc_law.nd rfl (.inl rfl))) (gs_cons (g_name (pg_name (i := 17) sc_law.nd rfl (.inl rfl))) gs_nil)))) (fun _ _ _ _ _ => (e_tup (a_cons (e_var (pv 17)) (a_cons (e_var (pv 14)) a_nil))))) a_nil)) callD_tuple kcg_tupOf) a_nil))))) a_nil))))))))))))
 (s_one (s_ret (ps_ret (e_or (e_eq hu64 (e_callB (pe_callB call_len (by rfl) T.len boot_len (a_cons (e_var (pv 18)) a_nil)) callD_len kcg_len) (e_con de_int)) (e_one (e_isB (e_c c.takes_never hr (by decide) (by rfl) (a_cons (e_var (pv 2)) (a_cons (e_callB (pe_callTy call_tuple_of (by rfl) T.tuple (by decide +kernel) (a_cons (e_var (pv 18)) a_nil)) callD_tuple kcg_tupOf) a_nil))) (e_con de_bl))))))))))))))))))))))))
end K36
set_option Elab.async false
set_option linter.all false
set_option maxRecDepth 100000
set_option maxHeartbeats 4000000
namespace K36
open PySem PySem.Spec L2 DW FW
abbrev s_begin : Stmt := top 6
abbrev s_take : Stmt := top 7
theorem sc_begin : FnScope nBegin ["script"] (defScope s_begin) := ⟨rfl, rfl, rfl, by decide +kernel, rfl, by decide +kernel, by decide +kernel⟩
theorem sc_take : FnScope nTake ["d", "many"] (defScope s_take) := ⟨rfl, rfl, rfl, by decide +kernel, rfl, by decide +kernel, by decide +kernel⟩
section
variable {P : Program} {w : World} {K : PySem.W.Frag} {mg : Str → Option Value} {base : Heap}
theorem bd_begin (T : TT0 P K mg) {f : Addr} (cdv : Value) (A : Around) (outer : List Env) (s : Shared) (H : Hp) (E : XK) : PSs (cxOf CX0 P w K mg base nBegin "_law_begin" (defScope s_begin) f cdv A outer s H E).nox (defBody s_begin) (t_begin K) :=
  pss_cons (ps_set (i := 1) sc_begin.nd rfl (.inl rfl) pe_int) (pss_cons (ps_for PassesOwn.never rfl (pi_list (pv 0)) (pg_name (i := 2) sc_begin.nd rfl (.inl rfl)) (pss_one (ps_set (i := 1) sc_begin.nd rfl (.inl rfl) (pe_op op_mod (pe_op op_add (pe_op op_add (pe_op op_mul (pv 1) pe_int) (pe_op op_mod (pe_callTy call_int1 (by rfl) T.int (by decide +kernel) (pa_cons (pv 2) pa_nil)) pe_int)) pe_int) pe_int))))
    (pss_one (ps_ret (pe_lst (pa_cons (pe_callTy call_list_of (by rfl) T.list (by decide +kernel) (pa_cons (pv 0) pa_nil)) (pa_cons pe_int (pa_cons pe_int (pa_cons (pv 1) pa_nil))))))))
theorem bd_take (T : TT0 P K mg) {f : Addr} (cdv : Value) (A : Around) (outer : List Env) (s : Shared) (H : Hp) (E : XK) : PSs (cxOf CX0 P w K mg base nTake "_law_take" (defScope s_take) f cdv A outer s H E).nox (defBody s_take) (t_take K) :=
  pss_cons (ps_if (PW.pt (pw_and (pt_cmpR op_eq (pe_ix ix_list (pv 0) pe_int (fun _ _ => rfl)) pe_int (nomark _)) (pw_and1 (pt_cmpR op_lt (pe_ix ix_list (pv 0) pe_int (fun _ _ => rfl)) (pe_callB call_len (by rfl) T.len boot_len (pa_cons (pe_ix ix_list (pv 0) pe_int (fun _ _ => rfl)) pa_nil)) (nomark _)))))
     (pss_cons (ps_asg (pe_callB call_abs (by rfl) T.abs (by decide +kernel) (pa_cons (pe_callTy call_int1 (by rfl) T.int (by decide +kernel) (pa_cons (pe_ix ix_list (pe_ix ix_list (pv 0) pe_int (fun _ _ => rfl)) (pe_ix ix_list (pv 0) pe_int (fun _ _ => rfl)) (fun _ _ => rfl)) pa_nil)) pa_nil)) (pg_sub (pv 0) pe_int set_list)) (pss_cons (ps_asg (pe_op op_add (pe_ix ix_list (pv 0) pe_int (fun _ _ => rfl)) pe_int) (pg_sub (pv 0) pe_int set_list))
     (pss_one (ps_if (pt_cmpR op_lt (pe_ix ix_list (pv 0) pe_int (fun _ _ => rfl)) (pe_op op_pow pe_int pe_int) (nomark _)) (pss_cons (ps_set (i := 2) sc_take.nd rfl (.inl rfl) (pe_callTy call_int1 (by rfl) T.int (by decide +kernel) (pa_cons (pe_ix ix_list (pv 0) pe_int (fun _ _ => rfl)) pa_nil))) (pss_cons (ps_asg pe_int (pg_sub (pv 0) pe_int set_list)) (pss_one (ps_ret (pe_op op_mod (pv 2) (pv 1)))))) pss_nil)))) pss_nil)
    (pss_cons (ps_if (pt_cmpR op_gt (pe_ix ix_list (pv 0) pe_int (fun _ _ => rfl)) pe_int (nomark _)) (pss_cons (ps_set (i := 3) sc_take.nd rfl (.inl rfl) (pe_op op_mod (pe_callTy call_int1 (by rfl) T.int (by decide +kernel) (pa_cons (pe_ix ix_list (pv 0) pe_int (fun _ _ => rfl)) pa_nil)) (pv 1))) (pss_cons (ps_asg (pe_op op_fdivNN (pe_callTy call_int1 (by rfl) T.int (by decide +kernel) (pa_cons (pe_ix ix_list (pv 0) pe_int (fun _ _ => rfl)) pa_nil)) (pv 1)) (pg_sub (pv 0) pe_int set_list)) (pss_one (ps_ret (pv 3))))) pss_nil)
    (pss_cons (ps_asg (pe_op op_mod (pe_callTy call_int1 (by rfl) T.int (by decide +kernel) (pa_cons (pe_op op_add (pe_op op_mul (pe_ix ix_list (pv 0) pe_int (fun _ _ => rfl)) pe_int) pe_int) pa_nil)) pe_int) (pg_sub (pv 0) pe_int set_list)) (pss_one (ps_ret (pe_op op_mod (pe_callTy call_int1 (by rfl) T.int (by decide +kernel) (pa_cons (pe_op op_fdiv (pe_ix ix_list (pv 0) pe_int (fun _ _ => rfl)) pe_int) pa_nil)) (pv 1))))))
/-- what the head tells of the defs -/
structure Fs (K : PySem.W.Frag) (mg : Str → Option Value) : Prop where
  f_pair_after : ∃ fd, FnP K "pair_after" s_pair_after (He.ga K "pair_after") fd
  g_pair_after : mg "pair_after" = some (.ref (He.ga K "pair_after"))
  f_merging_pairs : ∃ fd, FnP K "merging_pairs" s_merging_pairs (He.ga K "merging_pairs") fd
  g_merging_pairs : mg "merging_pairs" = some (.ref (He.ga K "merging_pairs"))
  f_reset_word : ∃ fd, FnP K "reset_word" s_reset_word (He.ga K "reset_word") fd
  g_reset_word : mg "reset_word" = some (.ref (He.ga K "reset_word"))
  f_takes_never : ∃ fd, FnP K "takes_never" s_takes_never (He.ga K "takes_never") fd
  g_takes_never : mg "takes_never" = some (.ref (He.ga K "takes_never"))
  f__law_begin : ∃ fd, FnP K "_law_begin" s_begin (He.ga K "_law_begin") fd
  g__law_begin : mg "_law_begin" = some (.ref (He.ga K "_law_begin"))
  f__law_take : ∃ fd, FnP K "_law_take" s_take (He.ga K "_law_take") fd
  g__law_take : mg "_law_take" = some (.ref (He.ga K "_law_take"))
  f__law_pick : ∃ fd, FnP K "_law_pick" s__law_pick (He.ga K "_law_pick") fd
  g__law_pick : mg "_law_pick" = some (.ref (He.ga K "_law_pick"))
  f__law_rank : ∃ fd, FnP K "_law_rank" s__law_rank (He.ga K "_law_rank") fd
  g__law_rank : mg "_law_rank" = some (.ref (He.ga K "_law_rank"))
  f__law_machine : ∃ fd, FnP K "_law_machine" s__law_machine (He.ga K "_law_machine") fd
  g__law_machine : mg "_law_machine" = some (.ref (He.ga K "_law_machine"))
  f__law_never : ∃ fd, FnP K "_law_never" s__law_never (He.ga K "_law_never") fd
  g__law_never : mg "_law_never" = some (.ref (He.ga K "_law_never"))
  f_law : ∃ fd, FnP K "law" s_law (He.ga K "law") fd
  g_law : mg "law" = some (.ref (He.ga K "law"))
variable (T : TT0 P K mg) (Z : Fs K mg)
include T Z
theorem k_pair_after_c : C8.Cal P w K mg base 1 "pair_after" (dSp K 3 (SC K F_pair_after)) [] := by
  obtain ⟨fd, FT⟩ := Z.f_pair_after
  refine ⟨_, fd, ["machine", "pair", "place"], [], ?_, Z.g_pair_after, FT.kp, FT.bindsN (ps := ["machine", "pair", "place"]) fun _ _ _ _ _ _ us hl => match us, hl with | [_, _, _], _ => rfl, .nil⟩
  exact dfn_ok (fun_of FT) sc_pair_after rfl (by decide) (fun cdv A outer s H E G hr => WC_pair_after T ⟨trivial⟩ _ cdv A outer s H E G hr) (fun rs P _ _ h => sem_F (PX := fun _ => False) h) (fun _ _ _ h => h)
theorem k_begin : C8.Cal P w K mg base 1 "_law_begin" (spBegin K) [] := by
  obtain ⟨fd, FT⟩ := Z.f__law_begin
  refine ⟨_, fd, ["script"], [], ?_, Z.g__law_begin, FT.kp, FT.bindsN (ps := ["script"]) fun _ _ _ _ _ _ us hl => match us, hl with | [_], _ => rfl, .nil⟩
  exact FT.ok sc_begin (fun vs H Q E h => by obtain ⟨a, ns, rfl, _⟩ := h; rfl) fun cdv A outer s H vs Q E hr h => ⟨t_begin K, PSs.nox (bd_begin T cdv A outer s H E), sem_begin h⟩
theorem k__law_take_c : C8.Cal P w K mg base 1 "_law_take" (dSp K 2 (SC K F_take)) [] := by
  obtain ⟨fd, FT⟩ := Z.f__law_take
  refine ⟨_, fd, ["d", "many"], [], ?_, Z.g__law_take, FT.kp, FT.bindsN (ps := ["d", "many"]) fun _ _ _ _ _ _ us hl => match us, hl with | [_, _], _ => rfl, .nil⟩
  exact FT.ok sc_take (fun vs H Q E h => dSp_len vs H Q E h) fun cdv A outer s H vs Q E hr h => ⟨t_take K, PSs.nox (bd_take T cdv A outer s H E), sem_take (take_dSp h)⟩
theorem k__law_rank_c : C8.Cal P w K mg base 1 "_law_rank" (dSp K 1 (SC K F__law_rank)) [] := by
  obtain ⟨fd, FT⟩ := Z.f__law_rank
  refine ⟨_, fd, ["words"], [], ?_, Z.g__law_rank, FT.kp, FT.bindsN (ps := ["words"]) fun _ _ _ _ _ _ us hl => match us, hl with | [_], _ => rfl, .nil⟩
  exact dfn_ok (fun_of FT) sc__law_rank rfl (by decide) (fun cdv A outer s H E G hr => WC__law_rank T ⟨trivial⟩ _ cdv A outer s H E G hr) (fun rs P _ _ h => sem_F (PX := fun _ => False) h) (fun _ _ _ h => h)
theorem k__law_never_c : C8.Cal P w K mg base 1 "_law_never" (dSp K 2 (SC K F__law_never)) [] := by
  obtain ⟨fd, FT⟩ := Z.f__law_never
  refine ⟨_, fd, ["machine", "pairs"], [], ?_, Z.g__law_never, FT.kp, FT.bindsN (ps := ["machine", "pairs"]) fun _ _ _ _ _ _ us hl => match us, hl with | [_, _], _ => rfl, .nil⟩
  exact dfn_ok (fun_of FT) sc__law_never rfl (by decide) (fun cdv A outer s H E G hr => WC__law_never T ⟨trivial⟩ _ cdv A outer s H E G hr) (fun rs P _ _ h => sem_F (PX := fun _ => False) h) (fun _ _ _ h => h)
theorem k_merging_pairs_c : C8.Cal P w K mg base 2 "merging_pairs" (dSp K 1 (SC K F_merging_pairs)) [] := by
  obtain ⟨fd, FT⟩ := Z.f_merging_pairs
  refine ⟨_, fd, ["machine"], [], ?_, Z.g_merging_pairs, FT.kp, FT.bindsN (ps := ["machine"]) fun _ _ _ _ _ _ us hl => match us, hl with | [_], _ => rfl, .nil⟩
  exact dfn_ok (fun_of FT) sc_merging_pairs rfl (by decide) (fun cdv A outer s H E G hr => WC_merging_pairs T ⟨k_pair_after_c T Z⟩ _ cdv A outer s H E G hr) (fun rs P _ _ h => sem_F (PX := fun _ => False) h) (fun _ _ _ h => h)
theorem k_takes_never_c : C8.Cal P w K mg base 2 "takes_never" (dSp K 2 (SC K F_takes_never)) [] := by
  obtain ⟨fd, FT⟩ := Z.f_takes_never
  refine ⟨_, fd, ["machine", "pairs"], [], ?_, Z.g_takes_never, FT.kp, FT.bindsN (ps := ["machine", "pairs"]) fun _ _ _ _ _ _ us hl => match us, hl with | [_, _], _ => rfl, .nil⟩
  exact dfn_ok (fun_of FT) sc_takes_never rfl (by decide) (fun cdv A outer s H E G hr => WC_takes_never T ⟨k_pair_after_c T Z⟩ _ cdv A outer s H E G hr) (fun rs P _ _ h => sem_F (PX := fun _ => False) h) (fun _ _ _ h => h)
theorem k__law_pick_c : C8.Cal P w K mg base 2 "_law_pick" (dSp K 2 (SC K F__law_pick)) [] := by
  obtain ⟨fd, FT⟩ := Z.f__law_pick
  refine ⟨_, fd, ["d", "menu"], [], ?_, Z.g__law_pick, FT.kp, FT.bindsN (ps := ["d", "menu"]) fun _ _ _ _ _ _ us hl => match us, hl with | [_, _], _ => rfl, .nil⟩
  exact dfn_ok (fun_of FT) sc__law_pick rfl (by decide) (fun cdv A outer s H E G hr => WC__law_pick T ⟨k__law_take_c T Z⟩ _ cdv A outer s H E G hr) (fun rs P _ _ h => sem_F (PX := fun _ => False) h) (fun _ _ _ h => h)
theorem k_reset_word_c : C8.Cal P w K mg base 3 "reset_word" (dSp K 1 (SC K F_reset_word)) [] := by
  obtain ⟨fd, FT⟩ := Z.f_reset_word
  refine ⟨_, fd, ["machine"], [], ?_, Z.g_reset_word, FT.kp, FT.bindsN (ps := ["machine"]) fun _ _ _ _ _ _ us hl => match us, hl with | [_], _ => rfl, .nil⟩
  exact dfn_ok (fun_of FT) sc_reset_word rfl (by decide) (fun cdv A outer s H E G hr => WC_reset_word T ⟨k_merging_pairs_c T Z⟩ _ cdv A outer s H E G hr) (fun rs P _ _ h => sem_F (PX := fun _ => False) h) (fun _ _ _ h => h)
theorem k__law_machine_c : C8.Cal P w K mg base 3 "_law_machine" (dSp K 2 (SC K F__law_machine)) [] := by
  obtain ⟨fd, FT⟩ := Z.f__law_machine
  refine ⟨_, fd, ["d", "most"], [], ?_, Z.g__law_machine, FT.kp, FT.bindsN (ps := ["d", "most"]) fun _ _ _ _ _ _ us hl => match us, hl with | [_, _], _ => rfl, .nil⟩
  exact dfn_ok (fun_of FT) sc__law_machine rfl (by decide) (fun cdv A outer s H E G hr => WC__law_machine T ⟨k__law_take_c T Z, k__law_pick_c T Z⟩ _ cdv A outer s H E G hr) (fun rs P _ _ h => sem_F (PX := fun _ => False) h) (fun _ _ _ h => h)
theorem k_law {f : Addr} {fd : FuncData} (FT : FnP K "law" s_law f fd) : FnOk P w K mg base (L2.CX P w) 4 f fd ["script"] (spLaw K) := by
  refine FT.ok sc_law (fun vs H Q E h => by obtain ⟨a, ns, rfl, _⟩ := h; rfl) fun cdv A outer s H vs Q E hr h => ⟨_, pss_cons (ps_set (i := 1) sc_law.nd rfl (.inl rfl) (C8.pe_c (k_begin T Z) hr (by decide) (by rfl) (pa_cons (pv 0) pa_nil))) (law_tail fun G => WX_law T ⟨k_reset_word_c T Z, k_takes_never_c T Z, k__law_take_c T Z, k__law_pick_c T Z, k__law_rank_c T Z, k__law_machine_c T Z, k__law_never_c T Z⟩ f cdv A outer s H E G hr), ?_⟩
  exact law_start (N := n_law) (n := 25) rfl (fun P PX p => law_sem (n := 25) law_true p) h
end
def fnl : List He.DefD := [⟨("pair_after", none), "pair_after", "pair_after", defArgs s_pair_after, defBody s_pair_after, defScope s_pair_after, [], []⟩, ⟨("merging_pairs", none), "merging_pairs", "merging_pairs", defArgs s_merging_pairs, defBody s_merging_pairs, defScope s_merging_pairs, [], []⟩, ⟨("reset_word", none), "reset_word", "reset_word", defArgs s_reset_word, defBody s_reset_word, defScope s_reset_word, [], []⟩, ⟨("takes_never", none), "takes_never", "takes_never", defArgs s_takes_never, defBody s_takes_never, defScope s_takes_never, [], []⟩, ⟨("_law_begin", none), "_law_begin", "_law_begin", defArgs s_begin, defBody s_begin, defScope s_begin, [], []⟩, ⟨("_law_take", none), "_law_take", "_law_take", defArgs s_take, defBody s_take, defScope s_take, [], []⟩, ⟨("_law_pick", none), "_law_pick", "_law_pick", defArgs s__law_pick, defBody s__law_pick, defScope s__law_pick, [], []⟩, ⟨("_law_rank", none), "_law_rank", "_law_rank", defArgs s__law_rank, defBody s__law_rank, defScope s__law_rank, [], []⟩, ⟨("_law_machine", none), "_law_machine", "_law_machine", defArgs s__law_machine, defBody s__law_machine, defScope s__law_machine, [], []⟩, ⟨("_law_never", none), "_law_never", "_law_never", defArgs s__law_never, defBody s__law_never, defScope s__law_never, [], []⟩, ⟨("law", none), "law", "law", defArgs s_law, defBody s_law, defScope s_law, [], []⟩]
def fal : List He.Fa := [.glo "pair_after", .glo "merging_pairs", .glo "reset_word", .glo "takes_never", .glo "_law_begin", .glo "_law_take", .glo "_law_pick", .glo "_law_rank", .glo "_law_machine", .glo "_law_never", .glo "law", .free "abs", .free "all", .free "any", .free "enumerate", .free "int", .free "len", .free "list", .free "range", .free "set", .free "sorted", .free "tuple"]
def iel : List IeD := []
abbrev RR : PySem.W.OpenRow := PySem.W.OpenLaw.row PySem.Challenge.rw_grammarhall_k36_whole_words_that_reset
abbrev fil : Str := (PySem.Challenge.rw_grammarhall_k36_whole_words_that_reset).prog.main.file
abbrev hk : PySem.W.Hook := hookE fil 5 fal fnl iel
def ob (s : PySem.W.SharedT) : AlE := obsEG fil 5 fal fnl iel (HandSHeadRun.getT s)
theorem ob_eq (s : PySem.W.SharedT) : ob s = hk.obs s.abs := obsEG_eq (HandSHeadRun.getT_eq s)
def lse : List PySem.Str := ["pair_after", "merging_pairs", "reset_word", "takes_never", "_law_begin", "_law_take", "_law_pick", "_law_rank", "_law_machine", "_law_never"]
set_option maxHeartbeats 0 in
theorem run (w : World) : HandSHeadRun.RunEq RR (PySem.W.view RR.prog [12]) hk ob 4000 lse w := by
  intro os
  kernel_rfl
theorem facts {w : World} {K : PySem.W.Frag} {h : Heap} {mg : Str → Option Value} {f : Addr} (X : K.In h) (G : h.Ns mainGlobals mg) (hfa : mg ("law" : Str) = some (.ref f)) (c : SaysE fil fal fnl iel K) :
    ∃ fd : FuncData, (∀ (s : Shared) (v : Value), BindsTo s fd ⟨[v], []⟩ [("script", v)]) ∧ ∀ base : Heap, K.In base → base.Ns mainGlobals mg → FnOk (PySem.Challenge.rw_grammarhall_k36_whole_words_that_reset).prog w K mg base (L2.CX (PySem.Challenge.rw_grammarhall_k36_whole_words_that_reset).prog w) 4 f fd ["script"] (spLaw K) := by
  have cd := c.d
  have T : TT0 (PySem.Challenge.rw_grammarhall_k36_whole_words_that_reset).prog K mg := ⟨He.free_ok X G (cd.fact 11 (f := .free "abs") rfl), He.free_ok X G (cd.fact 12 (f := .free "all") rfl), He.free_ok X G (cd.fact 13 (f := .free "any") rfl), He.free_ok X G (cd.fact 14 (f := .free "enumerate") rfl), He.free_ok X G (cd.fact 15 (f := .free "int") rfl), He.free_ok X G (cd.fact 16 (f := .free "len") rfl), He.free_ok X G (cd.fact 17 (f := .free "list") rfl), He.free_ok X G (cd.fact 18 (f := .free "range") rfl), He.free_ok X G (cd.fact 19 (f := .free "set") rfl), He.free_ok X G (cd.fact 20 (f := .free "sorted") rfl), He.free_ok X G (cd.fact 21 (f := .free "tuple") rfl)⟩
  have Z : Fs K mg := ⟨cd.def_ 0 rfl, He.glo_ok X G (cd.fact 0 (f := .glo "pair_after") rfl), cd.def_ 1 rfl, He.glo_ok X G (cd.fact 1 (f := .glo "merging_pairs") rfl), cd.def_ 2 rfl, He.glo_ok X G (cd.fact 2 (f := .glo "reset_word") rfl), cd.def_ 3 rfl, He.glo_ok X G (cd.fact 3 (f := .glo "takes_never") rfl), cd.def_ 4 rfl, He.glo_ok X G (cd.fact 4 (f := .glo "_law_begin") rfl), cd.def_ 5 rfl, He.glo_ok X G (cd.fact 5 (f := .glo "_law_take") rfl), cd.def_ 6 rfl, He.glo_ok X G (cd.fact 6 (f := .glo "_law_pick") rfl), cd.def_ 7 rfl, He.glo_ok X G (cd.fact 7 (f := .glo "_law_rank") rfl), cd.def_ 8 rfl, He.glo_ok X G (cd.fact 8 (f := .glo "_law_machine") rfl), cd.def_ 9 rfl, He.glo_ok X G (cd.fact 9 (f := .glo "_law_never") rfl), cd.def_ 10 rfl, He.glo_ok X G (cd.fact 10 (f := .glo "law") rfl)⟩
  obtain ⟨fd, F⟩ := Z.f_law
  have e := hfa.symm.trans Z.g_law
  cases e
  have b := FunD.bindsA (ps := ["script"]) F fun _ _ _ _ _ _ us hl => match us, hl with | [_], _ => rfl
  exact ⟨fd, fun s v => b s [v] rfl, fun base _ _ => k_law T Z F⟩
end K36
open PySem PySem.W PySem.Calls PyProof.Rows
theorem PySem.Challenge.cw_grammarhall_k36_whole_words_that_reset_holds : PySem.Challenge.rw_grammarhall_k36_whole_words_that_reset.Holds := by
  w_on; o_law
  refine HandSHeadRun.head_any (r := OpenLaw.row PySem.Challenge.rw_grammarhall_k36_whole_words_that_reset) (q := view (OpenLaw.row PySem.Challenge.rw_grammarhall_k36_whole_words_that_reset).prog [12]) (H := K36.hk) (ob := K36.ob) (M := 4000) (loose := K36.lse) (d := HandSHeadRun.topDef (OpenLaw.row PySem.Challenge.rw_grammarhall_k36_whole_words_that_reset).prog 12) (kwd := []) K36.ob_eq
    (by kernel_rfl) (fun s => by kernel_rfl) K36.run (by kernel_rfl) (by kernel_rfl) (by kernel_rfl) (by rfl) (by first | assumption | decide +kernel) (by decide +kernel) ⟨rfl, rfl, rfl, rfl, rfl, by decide +kernel⟩ ?hw ?hc
  case hw => w_witness2
  case hc =>
    refine DW.walk_bits (l := PySem.Challenge.rw_grammarhall_k36_whole_words_that_reset) (n := 63) (k := 4) (x := "script") (CX := fun w => L2.CX (PySem.Challenge.rw_grammarhall_k36_whole_words_that_reset).prog w) rfl (by decide) (by kernel_rfl) ⟨rfl, by decide, by decide⟩ ?F (fun w H s e s' z => by obtain ⟨_, _, _, _, _, _, _, _, _, _, _, _, z⟩ := z; exact z)
    intro w mg fa h Y G hmg0
    obtain ⟨K, KX, c⟩ := Y
    have e : (HandSHeadRun.topDef (OpenLaw.row PySem.Challenge.rw_grammarhall_k36_whole_words_that_reset).prog 12).name = ("law" : PySem.Str) := by kernel_rfl
    have hmg : mg ("law" : PySem.Str) = some (.ref fa) := by rw [← e]; exact hmg0
    obtain ⟨fd, hb, hF⟩ := K36.facts (w := w) KX G hmg c
    exact ⟨K, fd, DW.spLaw K, KX, hb, fun H a ns hl hz hS => ⟨a, ns, rfl, hS, hl, hz, fun _ => rfl⟩, hF⟩
